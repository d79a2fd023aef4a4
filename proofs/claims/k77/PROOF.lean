import PyProof.Rows.All
import Wide.All
import OpenK.AllK
import Wide.FinOn
import HandS.ForMost
import HandS.Exc
import HandS.WordsExc
import KE.KDictCopyH
import HandS.CallSlots
import HandS.IsInst
import HandS.Wide
import KE.SortData
import HandS.SortInts
import HandS.IterVal
import HandS.Iter
import HandS.Dict
import HandS.Strs
import HandS.SetBool
import HandS.OwnIter
import PySem.Challenge.RW_anyhashes_k77_plain_groups
set_option Elab.async false
set_option linter.all false
set_option maxRecDepth 100000
set_option maxHeartbeats 4000000
/-! VS: a value semantics over the hand layer. Data D without addresses; what a heap says of them; slots, some of which own their cell. -/
namespace VS
open PySem PySem.Spec PyProof.Rows L2

/-- data -/
inductive D where
  | non | bl (b : Bool) | int (i : Int) | str (x : Str)
  | tup (l : List D) | lst (l : List D) | scr (l : List D)
  | dct (l : List (D × D))
  | ins (c : String) (fs : List (String × D))
/-- an outcome -/
inductive R (α : Type) where
  | ok (a : α) | exc (c : String) (fs : List (String × D)) | bad
def R.bind {α β : Type} : R α → (α → R β) → R β
  | .ok a, f => f a
  | .exc c fs, _ => .exc c fs
  | .bad, _ => .bad
@[simp] theorem R.bind_ok {α β : Type} (a : α) (f : α → R β) : (R.ok a).bind f = f a := rfl
@[simp] theorem R.bind_bad {α β : Type} (f : α → R β) : (R.bad : R α).bind f = .bad := rfl
@[simp] theorem R.bind_exc {α β : Type} (c fs) (f : α → R β) : (R.exc c fs : R α).bind f = .exc c fs := rfl

/-! ### heaps -/
/-- from (F, H), F the part that stays for ever, to (F', H') -/
structure Ent (F H F' H' : Hp) : Prop where
  f : Same F F'
  fh : Same F' H'
  h : Same H H'
  fr : ∀ a, H a ≠ none → F a = none → F' a = none
theorem Ent.refl {F H : Hp} (e : Same F H) : Ent F H F H := ⟨Same.refl F, e, Same.refl H, fun _ _ h => h⟩
theorem Same.ne {F H : Hp} (e : Same F H) {a : Addr} (h : F a ≠ none) : H a ≠ none := by
  intro z
  cases q : F a with
  | none => exact h q
  | some o => rw [e a o q] at z; cases z
theorem Ent.trans {F H F1 H1 F2 H2 : Hp} (a : Ent F H F1 H1) (b : Ent F1 H1 F2 H2) : Ent F H F2 H2 :=
  ⟨a.f.trans b.f, b.fh, a.h.trans b.h, fun x h n => b.fr x (Same.ne a.h h) (a.fr x h n)⟩
/-- a new thing, for ever -/
theorem Ent.new {F H : Hp} (e : Same F H) {p : Addr} {o : HO} (h : H p = none) : Ent F H (upd F p o) (upd H p o) := by
  have hF : F p = none := e.free h
  refine ⟨fun b u q => ?_, fun b u q => ?_, fun b u q => ?_, fun b n1 n2 => ?_⟩
  · rw [upd_ne (ne_of_none q hF)]; exact q
  · by_cases hb : b = p
    · subst hb; rw [upd_same] at q ⊢; exact q
    · rw [upd_ne hb] at q ⊢; exact e b u q
  · rw [upd_ne (ne_of_none q h)]; exact q
  · have hb : b ≠ p := fun z => n1 (by rw [z]; exact h)
    rw [upd_ne hb]; exact n2
/-- a new thing, owned -/
theorem Ent.cell {F H : Hp} (e : Same F H) {p : Addr} {o : HO} (h : H p = none) : Ent F H F (upd H p o) :=
  ⟨Same.refl F, fun b u q => by rw [upd_ne (ne_of_none (e b u q) h)]; exact e b u q, fun b u q => by rw [upd_ne (ne_of_none q h)]; exact q, fun _ _ n => n⟩
/-- a thing that stands becomes one for ever -/
theorem Ent.freeze {F H F' H' : Hp} (e : Ent F H F' H') {p : Addr} {o : HO} (hp : H p = none) (hF : F' p = none) (h : H' p = some o) : Ent F H (upd F' p o) H' :=
  ⟨fun b u q => by rw [upd_ne (ne_of_none (e.f b u q) hF)]; exact e.f b u q, fun b u q => by
    by_cases hb : b = p
    · subst hb; rw [upd_same] at q; rw [h]; exact q
    · rw [upd_ne hb] at q; exact e.fh b u q, e.h, fun b n1 n2 => by
    have hb : b ≠ p := fun z => n1 (by rw [z]; exact hp)
    rw [upd_ne hb]; exact e.fr b n1 n2⟩
/-- an owned thing is changed -/
theorem Ent.set {F1 H1 F H : Hp} (e : Ent F1 H1 F H) {p : Addr} {o : HO} (hp : H1 p = none) (hF : F p = none) : Ent F1 H1 F (upd H p o) :=
  ⟨e.f, fun b u q => by rw [upd_ne (ne_of_none q hF)]; exact e.fh b u q, fun b u q => by rw [upd_ne (ne_of_none q hp)]; exact e.h b u q, e.fr⟩

/-! ### what data a heap bears -/
/-- the program, the world, where the classes stand -/
structure Ctx where
  P : Program
  w : World
  of : String → Option Addr
instance : CoeFun Ctx (fun _ => String → Option Addr) := ⟨Ctx.of⟩
/-- a dict's key: None, an int or a text -/
def leafV : Leaf → V | .none => .non | .num i => .int i | .text x => .str x
def leafD : Leaf → D | .none => .non | .num i => .int i | .text x => .str x
def nbool : Value → Bool | .bool _ => false | _ => true
/-- keys carried by value, but for True and False -/
def nkKind (P : Program) (w : World) : KeyKind P w Leaf where
  is := fun k v => Leaf.isOf k v && nbool v
  hash := (leafKind P w).hash
  inj := fun v a b ha hb => (leafKind P w).inj v a b (Bool.and_eq_true_iff.mp ha).1 (Bool.and_eq_true_iff.mp hb).1
  byValue := fun k v h => (leafKind P w).byValue k v (Bool.and_eq_true_iff.mp h).1
  pyHash := fun hv h => (leafKind P w).pyHash (Bool.and_eq_true_iff.mp hv).1 h
  eqBool := fun hu hv h => (leafKind P w).eqBool (Bool.and_eq_true_iff.mp hu).1 (Bool.and_eq_true_iff.mp hv).1 h
  «strs» := fun k x t v h => by
    have h1 := (leafKind P w).strs k x t v (Bool.and_eq_true_iff.mp h).1
    have h2 : Leaf.isOf k v = v.isStr x := h1
    show (Leaf.isOf k v && nbool v) = _
    rw [h2]
    cases v <;> simp [nbool, Value.isStr]
theorem leaf_is {P : Program} {w : World} {k : Leaf} {u : Value} (r : RelV (leafV k) u) : (nkKind P w).is k u = true := by
  cases k with
  | none => cases (show u = Value.none from r); rfl
  | num i => obtain ⟨t, rfl⟩ := (show ∃ t, u = Value.int i t from r); show (decide (i = i) && true) = true; simp
  | text x => obtain ⟨t, rfl⟩ := (show ∃ t, u = Value.str x t from r); show (Value.isStrOf x (.str x t) && true) = true; simp [Value.isStrOf]
theorem leaf_of {P : Program} {w : World} {k : Leaf} {u : Value} (h : (nkKind P w).is k u = true) : RelV (leafV k) u := by
  have h : (Leaf.isOf k u && nbool u) = true := h
  obtain ⟨h1, h2⟩ := Bool.and_eq_true_iff.mp h
  cases k with
  | none => cases u <;> first | rfl | exact absurd h1 Bool.false_ne_true
  | num i =>
    cases u with
    | int j t => have : j = i := of_decide_eq_true h1; subst this; exact ⟨t, rfl⟩
    | bool b => exact absurd h2 Bool.false_ne_true
    | _ => exact absurd h1 Bool.false_ne_true
  | text x =>
    obtain ⟨t, rfl⟩ := Value.isStrOf_shape (show Value.isStrOf x u = true from h1)
    exact ⟨t, rfl⟩
/-- a dict at a whose keys are such -/
def dctO (P : Program) (w : World) (a : Addr) (o : Obj) (kvs : List (Leaf × V)) : HO := .ext fun h => h.get? a = some o ∧ (a == sysModules) = false ∧ kvs.length ≤ sizeLine ∧ ∃ vs, KV kvs vs ∧ h.DictOf (nkKind P w) a vs
section
variable (K : PySem.W.Frag) (cl : Ctx)
mutual
inductive Rp (F : Hp) : V → D → Prop
  | non : Rp F .non .non
  | bl (b : Bool) : Rp F (.bl b) (.bl b)
  | int (i : Int) : Rp F (.int i) (.int i)
  | str (x : Str) : Rp F (.str x) (.str x)
  | lst {a : Addr} {vs : List V} {ds : List D} : F a = some (.lst vs) → RpA F vs ds → Rp F (.ref a) (.lst ds)
  | scr {a : Addr} {vs : List V} {ds : List D} : SqL K F a vs → RpA F vs ds → Rp F (.ref a) (.scr ds)
  | tup {a : Addr} {vs : List V} {ds : List D} : SqT K F a vs → RpA F vs ds → Rp F (.ref a) (.tup ds)
  | ins {a C dx : Addr} {c : String} {fs : List (Str × V)} {gs : List (String × D)} : cl c = some C → F a = some (.ins C dx fs) → RpF F fs gs → Rp F (.ref a) (.ins c gs)
  | dct {a : Addr} {o : Obj} {kvs : List (Leaf × V)} {es : List (D × D)} : F a = some (dctO cl.P cl.w a o kvs) → RpK F kvs es → Rp F (.ref a) (.dct es)
inductive RpA (F : Hp) : List V → List D → Prop
  | nil : RpA F [] []
  | cons {v : V} {vs : List V} {d : D} {ds : List D} : Rp F v d → RpA F vs ds → RpA F (v :: vs) (d :: ds)
inductive RpF (F : Hp) : List (Str × V) → List (String × D) → Prop
  | nil : RpF F [] []
  | cons {f : String} {v : V} {d : D} {vs : List (Str × V)} {ds : List (String × D)} : Rp F v d → RpF F vs ds → RpF F ((Str.ofString f, v) :: vs) ((f, d) :: ds)
inductive RpK (F : Hp) : List (Leaf × V) → List (D × D) → Prop
  | nil : RpK F [] []
  | cons {k : Leaf} {v : V} {d : D} {vs : List (Leaf × V)} {ds : List (D × D)} : Rp F v d → RpK F vs ds → RpK F ((k, v) :: vs) ((leafD k, d) :: ds)
end
/-- what stands in an owned cell -/
inductive Cell (F : Hp) (a : Addr) : HO → D → Prop
  | lst {vs : List V} {ds : List D} : RpA K cl F vs ds → Cell F a (.lst vs) (.lst ds)
  | dct {o : Obj} {kvs : List (Leaf × V)} {es : List (D × D)} : RpK K cl F kvs es → Cell F a (dctO cl.P cl.w a o kvs) (.dct es)
  | ins {C dx : Addr} {c : String} {fs : List (Str × V)} {gs : List (String × D)} : cl c = some C → RpF K cl F fs gs → Cell F a (.ins C dx fs) (.ins c gs)
end
section
variable {K : PySem.W.Frag} {cl : Ctx} {F F' H : Hp}
theorem Same.rd {a : Addr} {u : HO} (e : Same F F') (h : Rd F a u) : Rd F' a u := by
  rcases h with h | ⟨o, h⟩
  · exact .inl (e a _ h)
  · exact .inr ⟨o, e a _ h⟩
theorem Same.sql {a : Addr} {xs : List V} (e : Same F F') (h : SqL K F a xs) : SqL K F' a xs := e.seq h
theorem Same.sqt {a : Addr} {xs : List V} (e : Same F F') (h : SqT K F a xs) : SqT K F' a xs := by
  rcases h with h | h
  · exact .inl (Same.rd e h)
  · exact .inr h
mutual
theorem Rp.mono (e : Same F F') : ∀ {v : V} {d : D}, Rp K cl F v d → Rp K cl F' v d
  | _, _, .non => .non
  | _, _, .bl b => .bl b
  | _, _, .int i => .int i
  | _, _, .str x => .str x
  | _, _, .lst h r => .lst (e _ _ h) (RpA.mono e r)
  | _, _, .scr h r => .scr (Same.sql e h) (RpA.mono e r)
  | _, _, .tup h r => .tup (Same.sqt e h) (RpA.mono e r)
  | _, _, .ins c h r => .ins c (e _ _ h) (RpF.mono e r)
  | _, _, .dct h r => .dct (e _ _ h) (RpK.mono e r)
theorem RpA.mono (e : Same F F') : ∀ {vs : List V} {ds : List D}, RpA K cl F vs ds → RpA K cl F' vs ds
  | _, _, .nil => .nil
  | _, _, .cons h r => .cons (Rp.mono e h) (RpA.mono e r)
theorem RpF.mono (e : Same F F') : ∀ {vs : List (Str × V)} {ds : List (String × D)}, RpF K cl F vs ds → RpF K cl F' vs ds
  | _, _, .nil => .nil
  | _, _, .cons h r => .cons (Rp.mono e h) (RpF.mono e r)
theorem RpK.mono (e : Same F F') : ∀ {vs : List (Leaf × V)} {ds : List (D × D)}, RpK K cl F vs ds → RpK K cl F' vs ds
  | _, _, .nil => .nil
  | _, _, .cons h r => .cons (Rp.mono e h) (RpK.mono e r)
end
theorem Cell.mono (e : Same F F') {a : Addr} {o : HO} {d : D} : Cell K cl F a o d → Cell K cl F' a o d
  | .lst r => .lst (r.mono e)
  | .dct r => .dct (r.mono e)
  | .ins c r => .ins c (r.mono e)
/-- a cell, frozen -/
theorem Cell.rp {a : Addr} {o : HO} {d : D} (h : F a = some o) : Cell K cl F a o d → Rp K cl F (.ref a) d
  | .lst r => .lst h r
  | .dct r => .dct h r
  | .ins c r => .ins c h r
theorem RpA.length : ∀ {vs : List V} {ds : List D}, RpA K cl F vs ds → vs.length = ds.length
  | _, _, .nil => rfl
  | _, _, .cons _ r => by simp [RpA.length r]
theorem RpA.get : ∀ {vs : List V} {ds : List D} {i : Nat} {d : D}, RpA K cl F vs ds → ds[i]? = some d → ∃ v, vs[i]? = some v ∧ Rp K cl F v d
  | _, _, 0, _, .cons h _, e => by simp at e; subst e; exact ⟨_, rfl, h⟩
  | _, _, i + 1, _, .cons _ r, e => by simpa using RpA.get (i := i) r (by simpa using e)
  | _, _, i, _, .nil, e => by simp at e
theorem RpA.append : ∀ {vs ws : List V} {ds es : List D}, RpA K cl F vs ds → RpA K cl F ws es → RpA K cl F (vs ++ ws) (ds ++ es)
  | _, _, _, _, .nil, r => r
  | _, _, _, _, .cons h q, r => .cons h (RpA.append q r)
theorem RpA.one {v : V} {d : D} (h : Rp K cl F v d) : RpA K cl F [v] [d] := .cons h .nil
theorem RpA.set {v : V} {d : D} (h : Rp K cl F v d) : ∀ {vs : List V} {ds : List D} (i : Nat), RpA K cl F vs ds → RpA K cl F (vs.set i v) (ds.set i d)
  | _, _, _, .nil => .nil
  | _, _, 0, .cons _ r => .cons h r
  | _, _, i + 1, .cons q r => .cons q (RpA.set h i r)
theorem RpA.take : ∀ {vs : List V} {ds : List D} (n : Nat), RpA K cl F vs ds → RpA K cl F (vs.take n) (ds.take n)
  | _, _, 0, _ => .nil
  | _, _, _ + 1, .nil => .nil
  | _, _, n + 1, .cons h r => .cons h (RpA.take n r)
theorem RpA.drop : ∀ {vs : List V} {ds : List D} (n : Nat), RpA K cl F vs ds → RpA K cl F (vs.drop n) (ds.drop n)
  | _, _, 0, r => r
  | _, _, _ + 1, .nil => .nil
  | _, _, n + 1, .cons _ r => RpA.drop n r
theorem RpA.reverse : ∀ {vs : List V} {ds : List D}, RpA K cl F vs ds → RpA K cl F vs.reverse ds.reverse
  | _, _, .nil => .nil
  | _, _, .cons h r => by simpa using RpA.append (RpA.reverse r) (RpA.one h)
end

/-! ### slots -/
abbrev Sl := List (Option D)
/-- what is fixed at the entry: the part that stays for ever, the heap, the object that an __init__ makes -/
structure Ety where
  F0 : Hp
  H0 : Hp
  me : Option Addr
/-- slots s over the frame's σ; those in O own their cell; since the entry (F0, H0) -/
structure SlOk (K : PySem.W.Frag) (cl : Ctx) (En : Ety) (O : List Nat) (s : Sl) (σ : L2.St) (F H : Hp) : Prop where
  len : s.length = σ.length
  val : ∀ (i : Nat) (d : D), i ∉ O → s[i]? = some (some d) → ∃ v, σ[i]? = some (some v) ∧ Rp K cl F v d
  own : ∀ (i : Nat) (d : D), i ∈ O → s[i]? = some (some d) → ∃ a o, σ[i]? = some (some (.ref a)) ∧ H a = some o ∧ F a = none ∧ En.H0 a = none ∧ Cell K cl F a o d
  dist : ∀ (i j : Nat) (d e : D) (a : Addr), i ∈ O → j ∈ O → s[i]? = some (some d) → s[j]? = some (some e) → σ[i]? = some (some (.ref a)) → σ[j]? = some (some (.ref a)) → i = j
  ent : Ent En.F0 En.H0 F H
  me : ∀ x, En.me = some x → σ[0]? = some (some (.ref x))
section
variable {K : PySem.W.Frag} {cl : Ctx} {En : Ety} {F H F' H' : Hp} {O O' : List Nat} {s : Sl} {σ : L2.St}
theorem SlOk.fh (S : SlOk K cl En O s σ F H) : Same F H := S.ent.fh
theorem SlOk.grow (S : SlOk K cl En O s σ F H) (e : Ent F H F' H') : SlOk K cl En O s σ F' H' := by
  refine ⟨S.len, fun i d hi hs => ?_, fun i d hi hs => ?_, S.dist, S.ent.trans e, S.me⟩
  · obtain ⟨v, h1, h2⟩ := S.val i d hi hs
    exact ⟨v, h1, h2.mono e.f⟩
  · obtain ⟨a, o, h1, h2, h3, h4, h5⟩ := S.own i d hi hs
    exact ⟨a, o, h1, e.h a o h2, e.fr a (by rw [h2]; simp) h3, h4, h5.mono e.f⟩
/-- an address that H0 and no slot knows is changed -/
theorem SlOk.other (S : SlOk K cl En O s σ F H) {p : Addr} {o : HO} (h0 : En.H0 p = none) (hF : F p = none) (hn : ∀ i ∈ O, ∀ d, s[i]? = some (some d) → σ[i]? ≠ some (some (.ref p))) : SlOk K cl En O s σ F (upd H p o) := by
  refine ⟨S.len, S.val, fun i d hi hs => ?_, S.dist, S.ent.set h0 hF, S.me⟩
  obtain ⟨a, o', h1, h2, h3, h4, h5⟩ := S.own i d hi hs
  have ha : a ≠ p := fun z => hn i hi d hs (by rw [← z]; exact h1)
  exact ⟨a, o', h1, by rw [upd_ne ha]; exact h2, h3, h4, h5⟩
theorem set_get {α : Type} {l : List α} {i j : Nat} {a b : α} (h : (l.set i a)[j]? = some b) : (i = j ∧ a = b ∧ i < l.length) ∨ (i ≠ j ∧ l[j]? = some b) := by
  by_cases e : i = j
  · subst e
    rw [List.getElem?_set_self'] at h
    by_cases hl : i < l.length
    · rw [List.getElem?_eq_getElem hl] at h
      exact .inl ⟨rfl, by simpa using h, hl⟩
    · rw [List.getElem?_eq_none (by omega)] at h; cases h
  · rw [List.getElem?_set_ne e] at h
    exact .inr ⟨e, h⟩
theorem SlOk.meSet (S : SlOk K cl En O s σ F H) {i : Nat} {u : Option V} (hme : En.me = none ∨ i ≠ 0) : ∀ x, En.me = some x → (σ.set i u)[0]? = some (some (.ref x)) := fun x hx => by
  rcases hme with h | h
  · rw [h] at hx; cases hx
  · rw [List.getElem?_set_ne h]; exact S.me x hx
/-- a slot that doesn't own is stored -/
theorem SlOk.put (S : SlOk K cl En O s σ F H) {i : Nat} {v : V} {d : D} (hme : En.me = none ∨ i ≠ 0) (hi : i ∉ O) (r : Rp K cl F v d) : SlOk K cl En O (s.set i (some d)) (σ.set i (some v)) F H := by
  refine ⟨by simp [S.len], fun j e hj hs => ?_, fun j e hj hs => ?_, fun j k e e' a hj hk hs hs' h1 h2 => ?_, S.ent, S.meSet hme⟩
  · rcases set_get hs with ⟨h1, h2, h3⟩ | ⟨h1, h2⟩
    · subst h1; cases h2
      exact ⟨v, by rw [List.getElem?_set_self (by rw [← S.len]; exact h3)], r⟩
    · rw [List.getElem?_set_ne h1]; exact S.val j e hj h2
  · have h1 : i ≠ j := fun z => hi (z ▸ hj)
    rw [List.getElem?_set_ne h1] at hs ⊢
    exact S.own j e hj hs
  · have e1 : i ≠ j := fun z => hi (z ▸ hj)
    have e2 : i ≠ k := fun z => hi (z ▸ hk)
    rw [List.getElem?_set_ne e1] at hs h1
    rw [List.getElem?_set_ne e2] at hs' h2
    exact S.dist j k e e' a hj hk hs hs' h1 h2
/-- a slot takes a new cell over -/
theorem SlOk.take (S : SlOk K cl En O s σ F H) {i : Nat} {a : Addr} {o : HO} {d : D} (hme : En.me = none ∨ i ≠ 0) (hO : ∀ j, j ∈ O' → j = i ∨ j ∈ O) (hO' : ∀ j, j ∈ O → j = i ∨ j ∈ O') (hi : i ∈ O') (ha : H a = some o) (hF : F a = none) (h0 : En.H0 a = none) (hc : Cell K cl F a o d)
    (hn : ∀ j ∈ O, ∀ e, s[j]? = some (some e) → σ[j]? ≠ some (some (.ref a))) : SlOk K cl En O' (s.set i (some d)) (σ.set i (some (.ref a))) F H := by
  refine ⟨by simp [S.len], fun j e hj hs => ?_, fun j e hj hs => ?_, fun j k e e' b hj hk hs hs' h1 h2 => ?_, S.ent, S.meSet hme⟩
  · rcases set_get hs with ⟨h1, h2, h3⟩ | ⟨h1, h2⟩
    · subst h1; exact absurd hi hj
    · rw [List.getElem?_set_ne h1]
      exact S.val j e (fun z => (hO' j z).elim (fun q => h1 q.symm) hj) h2
  · rcases set_get hs with ⟨h1, h2, h3⟩ | ⟨h1, h2⟩
    · subst h1; cases h2
      exact ⟨a, o, by rw [List.getElem?_set_self (by rw [← S.len]; exact h3)], ha, hF, h0, hc⟩
    · rw [List.getElem?_set_ne h1]
      exact S.own j e ((hO j hj).elim (fun q => absurd q.symm h1) id) h2
  · rcases set_get hs with ⟨z1, z2, z3⟩ | ⟨z1, z2⟩
    · subst z1
      rcases set_get hs' with ⟨y1, y2, y3⟩ | ⟨y1, y2⟩
      · exact y1
      · rw [List.getElem?_set_self (by rw [← S.len]; exact z3)] at h1
        rw [List.getElem?_set_ne y1] at h2
        cases h1
        exact absurd h2 (hn k ((hO k hk).elim (fun q => absurd q.symm y1) id) e' y2)
    · rcases set_get hs' with ⟨y1, y2, y3⟩ | ⟨y1, y2⟩
      · subst y1
        rw [List.getElem?_set_self (by rw [← S.len]; exact y3)] at h2
        rw [List.getElem?_set_ne z1] at h1
        cases h2
        exact absurd h1 (hn j ((hO j hj).elim (fun q => absurd q.symm z1) id) e z2)
      · rw [List.getElem?_set_ne z1] at h1
        rw [List.getElem?_set_ne y1] at h2
        exact S.dist j k e e' b ((hO j hj).elim (fun q => absurd q.symm z1) id) ((hO k hk).elim (fun q => absurd q.symm y1) id) z2 y2 h1 h2
/-- an owned cell is changed -/
theorem SlOk.change (S : SlOk K cl En O s σ F H) {i : Nat} {a : Addr} {o : HO} {d d' : D} (hi : i ∈ O) (hs : s[i]? = some (some d)) (ha : σ[i]? = some (some (.ref a))) (hF : F a = none) (h0 : En.H0 a = none) (hc : Cell K cl F a o d') :
    SlOk K cl En O (s.set i (some d')) σ F (upd H a o) := by
  have hil : i < s.length := (List.getElem?_eq_some_iff.mp hs).1
  refine ⟨by simp [S.len], fun j e hj hs' => ?_, fun j e hj hs' => ?_, fun j k e e' b hj hk hs1 hs2 h1 h2 => ?_, S.ent.set h0 hF, S.me⟩
  · have h1 : i ≠ j := fun z => hj (z ▸ hi)
    rw [List.getElem?_set_ne h1] at hs'
    exact S.val j e hj hs'
  · rcases set_get hs' with ⟨h1, h2, h3⟩ | ⟨h1, h2⟩
    · subst h1; cases h2
      exact ⟨a, o, ha, upd_same, hF, h0, hc⟩
    · obtain ⟨b, o', q1, q2, q3, q4, q5⟩ := S.own j e hj h2
      have hb : b ≠ a := fun z => h1 (S.dist i j d e a hi hj hs h2 ha (by rw [← z]; exact q1))
      exact ⟨b, o', q1, by rw [upd_ne hb]; exact q2, q3, q4, q5⟩
  · have g1 : ∃ e, s[j]? = some (some e) := by
      rcases set_get hs1 with ⟨z1, z2, z3⟩ | ⟨z1, z2⟩
      · exact ⟨d, z1 ▸ hs⟩
      · exact ⟨e, z2⟩
    have g2 : ∃ e, s[k]? = some (some e) := by
      rcases set_get hs2 with ⟨z1, z2, z3⟩ | ⟨z1, z2⟩
      · exact ⟨d, z1 ▸ hs⟩
      · exact ⟨e', z2⟩
    obtain ⟨e1, g1⟩ := g1
    obtain ⟨e2, g2⟩ := g2
    exact S.dist j k e1 e2 b hj hk g1 g2 h1 h2
/-- an owned slot is frozen -/
theorem SlOk.freeze (S : SlOk K cl En O s σ F H) (i : Nat) : ∃ F', Same F F' ∧ SlOk K cl En (O.filter (· ≠ i)) s σ F' H := by
  have mem : ∀ j, j ∈ O.filter (· ≠ i) ↔ j ∈ O ∧ j ≠ i := fun j => by simp
  by_cases hi : i ∈ O
  · cases q : s[i]? with
    | none =>
      refine ⟨F, Same.refl F, S.len, fun j e hj hs => ?_, fun j e hj hs => S.own j e ((mem j).mp hj).1 hs, fun j k e e' a hj hk => S.dist j k e e' a ((mem j).mp hj).1 ((mem k).mp hk).1, S.ent, S.me⟩
      have : j ≠ i := fun z => by rw [z, q] at hs; cases hs
      exact S.val j e (fun z => hj ((mem j).mpr ⟨z, this⟩)) hs
    | some x =>
      cases x with
      | none =>
        refine ⟨F, Same.refl F, S.len, fun j e hj hs => ?_, fun j e hj hs => S.own j e ((mem j).mp hj).1 hs, fun j k e e' a hj hk => S.dist j k e e' a ((mem j).mp hj).1 ((mem k).mp hk).1, S.ent, S.me⟩
        have : j ≠ i := fun z => by rw [z, q] at hs; cases hs
        exact S.val j e (fun z => hj ((mem j).mpr ⟨z, this⟩)) hs
      | some d =>
        obtain ⟨a, o, h1, h2, h3, h4, h5⟩ := S.own i d hi q
        have sm : Same F (upd F a o) := fun b u e => by rw [upd_ne (ne_of_none e h3)]; exact e
        refine ⟨upd F a o, sm, S.len, fun j e hj hs => ?_, fun j e hj hs => ?_, fun j k e e' a hj hk => S.dist j k e e' a ((mem j).mp hj).1 ((mem k).mp hk).1, ⟨S.ent.f.trans sm, fun b u e => ?_, S.ent.h, fun b n1 n2 => ?_⟩, S.me⟩
        · by_cases hj' : j ∈ O
          · have e1 : j = i := Classical.byContradiction fun z => hj ((mem j).mpr ⟨hj', z⟩)
            subst e1
            rw [q] at hs; cases hs
            exact ⟨_, h1, (h5.mono sm).rp upd_same⟩
          · obtain ⟨v, g1, g2⟩ := S.val j e hj' hs
            exact ⟨v, g1, g2.mono sm⟩
        · have hj' := (mem j).mp hj
          obtain ⟨b, u, g1, g2, g3, g4, g5⟩ := S.own j e hj'.1 hs
          have hb : b ≠ a := fun z => hj'.2 (S.dist j i e d a hj'.1 hi hs q (by rw [← z]; exact g1) h1)
          exact ⟨b, u, g1, g2, by rw [upd_ne hb]; exact g3, g4, g5.mono sm⟩
        · by_cases hb : b = a
          · subst hb; rw [upd_same] at e; rw [h2]; exact e
          · rw [upd_ne hb] at e; exact S.ent.fh b u e
        · have hb : b ≠ a := fun z => n1 (by rw [z]; exact h4)
          rw [upd_ne hb]; exact S.ent.fr b n1 n2
  · have e : O.filter (· ≠ i) = O := List.filter_eq_self.mpr fun j hj => by have : j ≠ i := (fun (z : j = i) => hi (by rw [← z]; exact hj)); simpa using this
    exact ⟨F, Same.refl F, by rw [e]; exact S⟩
end
end VS
namespace VS
open PySem PySem.Spec PyProof.Rows L2
/-! ### judgements -/
theorem PE.weak {X : Cx} {e : Expr} {t t' : TE} (h : PE X e t) (i : ∀ σ H Q, t' σ H Q → t σ H Q) : PE X e t' := ⟨fun pins s σ H Q I q => h.run pins s σ H Q I (i σ H Q q)⟩
theorem PT.weak {X : Cx} {e : Expr} {t t' : TT} (h : PT X e t) (i : ∀ σ H Q, t' σ H Q → t σ H Q) : PT X e t' := ⟨fun pins s σ H Q I q => h.run pins s σ H Q I (i σ H Q q)⟩
theorem PW.weak {X : Cx} {e : Expr} {t t' : TT} (h : PW X e t) (i : ∀ σ H Q, t' σ H Q → t σ H Q) : PW X e t' := ⟨fun wh pins s σ H Q I q => h.run wh pins s σ H Q I (i σ H Q q)⟩
theorem PA.weak {X : Cx} {e : List Expr} {t t' : TA} (h : PA X e t) (i : ∀ σ H Q, t' σ H Q → t σ H Q) : PA X e t' := ⟨fun p pins s σ H Q I q => h.run p pins s σ H Q I (i σ H Q q)⟩
theorem PS.weak {X : Cx} {e : Stmt} {t t' : TS} (h : PS X e t) (i : ∀ D σ H, t' D σ H → t D σ H) : PS X e t' := ⟨fun pins s σ H D I q => h.run pins s σ H D I (i D σ H q)⟩
theorem PSs.weak {X : Cx} {e : List Stmt} {t t' : TS} (h : PSs X e t) (i : ∀ D σ H, t' D σ H → t D σ H) : PSs X e t' := ⟨fun pins s σ H D I q => h.run pins s σ H D I (i D σ H q)⟩
/-- with what the machine's state knows -/
theorem PE.weakI {X : Cx} {e : Expr} {t t' : TE} (h : PE X e t) (i : ∀ pins s σ H Q, Inv X pins σ H s → t' σ H Q → t σ H Q) : PE X e t' := ⟨fun pins s σ H Q I q => h.run pins s σ H Q I (i pins s σ H Q I q)⟩

section
variable (K : PySem.W.Frag) (cl : Ctx)
/-- an exception of the class c with these fields, its dict at e -/
def ExRp (F H : Hp) (c : String) (fs : List (String × D)) (C : Value) (e : Option Addr) : Prop :=
  ∃ (Ca d : Addr) (vs : List (Str × V)), cl c = some Ca ∧ C = .ref Ca ∧ e = some d ∧ H d = some (.xd vs) ∧ RpF K cl F vs fs
/-- what is wanted of an outcome -/
def Pst {α : Type} (W : WX) (σ : L2.St) (F H : Hp) (P : α → Prop) : R α → Prop
  | .ok a => P a
  | .exc c fs => ∀ C e F' H', Ent F H F' H' → ExRp K cl F' H' c fs C e → W C e σ H'
  | .bad => False
/-- a value for ever, or an owned thing -/
def RpB (F H : Hp) (v : V) (d : D) : Prop := Rp K cl F v d ∨ ∃ a o, v = .ref a ∧ H a = some o ∧ F a = none ∧ Cell K cl F a o d
end
section
variable {K : PySem.W.Frag} {cl : Ctx} {W : WX} {σ : L2.St} {F H F' H' : Hp}
theorem Pst.bind {α β : Type} {P : β → Prop} {P' : α → Prop} {r : R α} {f : α → R β} (h : Pst K cl W σ F H P (r.bind f)) (k : ∀ a, r = .ok a → Pst K cl W σ F H P (f a) → P' a) : Pst K cl W σ F H P' r := by
  cases r with
  | ok a => exact k a rfl h
  | exc c fs => exact h
  | bad => exact h
theorem Pst.grow {α : Type} {P : α → Prop} {r : R α} (h : Pst K cl W σ F H P r) (e : Ent F H F' H') : Pst K cl W σ F' H' P r := by
  cases r with
  | ok a => exact h
  | exc c fs => exact fun C x F2 H2 e2 q => h C x F2 H2 (e.trans e2) q
  | bad => exact h
theorem Pst.imp {α : Type} {P P' : α → Prop} {r : R α} (h : Pst K cl W σ F H P r) (k : ∀ a, r = .ok a → P a → P' a) : Pst K cl W σ F H P' r := by
  cases r with
  | ok a => exact k a rfl h
  | exc c fs => exact h
  | bad => exact h
theorem RpB.grow {v : V} {d : D} (h : RpB K cl F H v d) (e : Ent F H F' H') : RpB K cl F' H' v d := by
  rcases h with h | ⟨a, o, h1, h2, h3, h4⟩
  · exact .inl (h.mono e.f)
  · exact .inr ⟨a, o, h1, e.h _ _ h2, e.fr _ (by rw [h2]; simp) h3, h4.mono e.f⟩
theorem RpB.int {v : V} {i : Int} (h : RpB K cl F H v (.int i)) : v = .int i := by
  rcases h with h | ⟨a, o, h1, h2, h3, h4⟩
  · cases h; rfl
  · cases h4
theorem RpB.bl {v : V} {i : Bool} (h : RpB K cl F H v (.bl i)) : v = .bl i := by
  rcases h with h | ⟨a, o, h1, h2, h3, h4⟩
  · cases h; rfl
  · cases h4
theorem RpB.str {v : V} {i : Str} (h : RpB K cl F H v (.str i)) : v = .str i := by
  rcases h with h | ⟨a, o, h1, h2, h3, h4⟩
  · cases h; rfl
  · cases h4
theorem RpB.non {v : V} (h : RpB K cl F H v .non) : v = .non := by
  rcases h with h | ⟨a, o, h1, h2, h3, h4⟩
  · cases h; rfl
  · cases h4
theorem RpB.tup {v : V} {ds : List D} (h : RpB K cl F H v (.tup ds)) : ∃ a vs, v = .ref a ∧ SqT K F a vs ∧ RpA K cl F vs ds := by
  rcases h with h | ⟨a, o, h1, h2, h3, h4⟩
  · cases h with | tup h r => exact ⟨_, _, rfl, h, r⟩
  · cases h4
theorem RpB.lst {v : V} {ds : List D} (fh : Same F H) (h : RpB K cl F H v (.lst ds)) : ∃ a vs, v = .ref a ∧ H a = some (.lst vs) ∧ RpA K cl F vs ds := by
  rcases h with h | ⟨a, o, h1, h2, h3, h4⟩
  · cases h with | lst h r => exact ⟨_, _, rfl, fh _ _ h, r⟩
  · cases h4 with | lst r => exact ⟨a, _, h1, h2, r⟩
theorem RpB.scr {v : V} {ds : List D} (fh : Same F H) (h : RpB K cl F H v (.scr ds)) : ∃ a vs, v = .ref a ∧ SqL K H a vs ∧ RpA K cl F vs ds := by
  rcases h with h | ⟨a, o, h1, h2, h3, h4⟩
  · cases h with | scr h r => exact ⟨_, _, rfl, Same.sql fh h, r⟩
  · cases h4
theorem RpB.dct {v : V} {ds : List (D × D)} (fh : Same F H) (h : RpB K cl F H v (.dct ds)) : ∃ a o vs, v = .ref a ∧ H a = some (dctO cl.P cl.w a o vs) ∧ RpK K cl F vs ds := by
  rcases h with h | ⟨a, o, h1, h2, h3, h4⟩
  · cases h with | dct h r => exact ⟨_, _, _, rfl, fh _ _ h, r⟩
  · cases h4 with | dct r => exact ⟨a, _, _, h1, h2, r⟩
theorem RpB.ins {v : V} {c : String} {gs : List (String × D)} (fh : Same F H) (h : RpB K cl F H v (.ins c gs)) : ∃ a C dx fs, v = .ref a ∧ cl c = some C ∧ H a = some (.ins C dx fs) ∧ RpF K cl F fs gs := by
  rcases h with h | ⟨a, o, h1, h2, h3, h4⟩
  · cases h with | ins c h r => exact ⟨_, _, _, _, rfl, c, fh _ _ h, r⟩
  · cases h4 with | ins c r => exact ⟨a, _, _, _, h1, c, h2, r⟩
end

section
variable (X : Cx) (cl : Ctx) (En : Ety) (W : WX) (O : List Nat)
/-- an expression's value, for ever -/
def tV (f : Sl → R D) : TE := fun σ H Q => ∃ s F, SlOk X.K cl En O s σ F H ∧ Pst X.K cl W σ F H (fun d => ∀ v F' H', Ent F H F' H' → Rp X.K cl F' v d → Q v H') (f s)
/-- .. that may be an owned thing -/
def tB (f : Sl → R D) : TE := fun σ H Q => ∃ s F, SlOk X.K cl En O s σ F H ∧ Pst X.K cl W σ F H (fun d => ∀ v F' H', Ent F H F' H' → RpB X.K cl F' H' v d → Q v H') (f s)
/-- .. that is a new thing -/
def tO (f : Sl → R D) : TE := fun σ H Q => ∃ s F, SlOk X.K cl En O s σ F H ∧ Pst X.K cl W σ F H (fun d => ∀ a o F' H', Ent F H F' H' → H a = none → H' a = some o → F' a = none → Cell X.K cl F' a o d → Q (.ref a) H') (f s)
def tT (f : Sl → R Bool) : TT := fun σ H Q => ∃ s F, SlOk X.K cl En O s σ F H ∧ Pst X.K cl W σ F H (fun b => ∀ F' H', Ent F H F' H' → Q b H') (f s)
def tA (f : Sl → R (List D)) : TA := fun σ H Q => ∃ s F, SlOk X.K cl En O s σ F H ∧ Pst X.K cl W σ F H (fun ds => ∀ vs F' H', Ent F H F' H' → RpA X.K cl F' vs ds → Q vs H') (f s)
def VE (e : Expr) (f : Sl → R D) : Prop := PE X e (tV X cl En W O f)
def VB (e : Expr) (f : Sl → R D) : Prop := PE X e (tB X cl En W O f)
def VO (e : Expr) (f : Sl → R D) : Prop := PE X e (tO X cl En W O f)
def VT (e : Expr) (f : Sl → R Bool) : Prop := PT X e (tT X cl En W O f)
def VW (e : Expr) (f : Sl → R Bool) : Prop := PW X e (tT X cl En W O f)
def VA (es : List Expr) (f : Sl → R (List D)) : Prop := PA X es (tA X cl En W O f)
end

/-! ### meanings -/
def eC (d : D) : Sl → R D := fun _ => .ok d
def eN (i : Nat) : Sl → R D := fun s => match s[i]? with | some (some d) => .ok d | _ => .bad
def e2 (g : D → D → R D) (f1 f2 : Sl → R D) : Sl → R D := fun s => (f1 s).bind fun x => (f2 s).bind fun y => g x y
def e1 (g : D → R D) (f1 : Sl → R D) : Sl → R D := fun s => (f1 s).bind g
def aN : Sl → R (List D) := fun _ => .ok []
def aC (f1 : Sl → R D) (fr : Sl → R (List D)) : Sl → R (List D) := fun s => (f1 s).bind fun x => (fr s).bind fun xs => .ok (x :: xs)
def lim : Nat := 16000000
theorem lim_le : lim ≤ sizeLine := by decide
def eTup (f : Sl → R (List D)) : Sl → R D := fun s => (f s).bind fun xs => if xs.length ≤ lim then .ok (.tup xs) else .bad
def eLst (f : Sl → R (List D)) : Sl → R D := fun s => (f s).bind fun xs => if xs.length ≤ lim then .ok (.lst xs) else .bad
def tVal (f : Sl → R D) : Sl → R Bool := fun s => (f s).bind fun d => match d with | .bl b => .ok b | _ => .bad
def tAndD (f g : Sl → R Bool) : Sl → R Bool := fun s => (f s).bind fun b => if b then g s else .ok false
def tOrD (f g : Sl → R Bool) : Sl → R Bool := fun s => (f s).bind fun b => if b then .ok true else g s
def tNotD (f : Sl → R Bool) : Sl → R Bool := fun s => (f s).bind fun b => .ok (!b)
def eIf (c : Sl → R Bool) (f g : Sl → R D) : Sl → R D := fun s => (c s).bind fun b => if b then f s else g s
def eAnd (f g : Sl → R D) : Sl → R D := fun s => (f s).bind fun d => match d with | .bl b => if b then g s else .ok (.bl false) | _ => .bad
def eOr (f g : Sl → R D) : Sl → R D := fun s => (f s).bind fun d => match d with | .bl b => if b then .ok (.bl true) else g s | _ => .bad
def notD : D → R D | .bl b => .ok (.bl (!b)) | _ => .bad

section
variable {X : Cx} {cl : Ctx} {En : Ety} {W : WX} {O : List Nat} {e a b c : Expr} {es : List Expr} {f g h : Sl → R D} {fa : Sl → R (List D)} {pos : Pos}
/-! ### from one kind to another -/
theorem VE.vb (h : VE X cl En W O e f) : VB X cl En W O e f := PE.weak h fun σ H Q ⟨s, F, S, p⟩ => ⟨s, F, S, p.imp fun d _ q v F' H' e r => q v F' H' e (.inl r)⟩
theorem VO.vb (h : VO X cl En W O e f) : VB X cl En W O e f := PE.weak h fun σ H Q ⟨s, F, S, p⟩ => ⟨s, F, S, p.imp fun d _ q a o F' H' e h1 h2 h3 h4 => q _ F' H' e (.inr ⟨a, o, rfl, h2, h3, h4⟩)⟩
theorem VO.ve (h : VO X cl En W O e f) : VE X cl En W O e f := PE.weak h fun σ H Q ⟨s, F, S, p⟩ => ⟨s, F, S, p.imp fun d _ q a o F' H' e h1 h2 h3 h4 => by
  have sm : Same F' (upd F' a o) := fun b u e => by rw [upd_ne (ne_of_none e h3)]; exact e
  exact q _ (upd F' a o) H' (e.freeze h1 h3 h2) ((h4.mono sm).rp upd_same)⟩
/-! ### names and constants -/
theorem ve_name (i : Nat) {x : Str} (hi : i ∉ O := by decide) (hN : X.N[i]? = some x := by rfl) (hv : Vis X.env.scope x := by first | exact Or.inl rfl | exact Or.inr (Or.inl rfl) | exact Or.inr (Or.inr rfl)) (hd : (x == ("__debug__" : Str)) = false := by decide)
    (hcd : (x == ("__classdict__" : Str)) = false := by decide) : VE X cl En W O (.Name x pos) (eN i) := PE.weak (pe_var hN hv hd hcd) fun σ H Q ⟨s, F, S, p⟩ => by
  unfold eN at p
  cases q : s[i]? with
  | none => rw [q] at p; exact p.elim
  | some u =>
    cases u with
    | none => rw [q] at p; exact p.elim
    | some d =>
      rw [q] at p
      obtain ⟨v, h1, h2⟩ := S.val i d hi q
      exact ⟨v, h1, p v F H (Ent.refl S.fh) h2⟩
theorem vb_name (i : Nat) {x : Str} (hN : X.N[i]? = some x := by rfl) (hv : Vis X.env.scope x := by first | exact Or.inl rfl | exact Or.inr (Or.inl rfl) | exact Or.inr (Or.inr rfl)) (hd : (x == ("__debug__" : Str)) = false := by decide)
    (hcd : (x == ("__classdict__" : Str)) = false := by decide) : VB X cl En W O (.Name x pos) (eN i) := PE.weak (pe_var hN hv hd hcd) fun σ H Q ⟨s, F, S, p⟩ => by
  unfold eN at p
  cases q : s[i]? with
  | none => rw [q] at p; exact p.elim
  | some u =>
    cases u with
    | none => rw [q] at p; exact p.elim
    | some d =>
      rw [q] at p
      by_cases hi : i ∈ O
      · obtain ⟨a, o, h1, h2, h3, h4, h5⟩ := S.own i d hi q
        exact ⟨_, h1, p _ F H (Ent.refl S.fh) (.inr ⟨a, o, rfl, h2, h3, h5⟩)⟩
      · obtain ⟨v, h1, h2⟩ := S.val i d hi q
        exact ⟨v, h1, p v F H (Ent.refl S.fh) (.inl h2)⟩
theorem tV_c {v : V} {d : D} (r : ∀ F, Rp X.K cl F v d) (h : PE X e (tC v)) : VE X cl En W O e (eC d) := PE.weak h fun σ H Q ⟨s, F, S, p⟩ => p v F H (Ent.refl S.fh) (r F)
theorem ve_int {i j} : VE X cl En W O (.Constant (.int i) j pos) (eC (.int i)) := tV_c (fun _ => .int i) pe_int
theorem ve_bl {i j} : VE X cl En W O (.Constant (.bool i) j pos) (eC (.bl i)) := tV_c (fun _ => .bl i) pe_bl
theorem ve_non {j} : VE X cl En W O (.Constant .none j pos) (eC .non) := tV_c (fun _ => .non) pe_non
theorem ve_str {i j} : VE X cl En W O (.Constant (.str i) j pos) (eC (.str i)) := tV_c (fun _ => .str i) pe_str
/-! ### argument lists, displays -/
theorem va_nil : VA X cl En W O [] aN := PA.weak pa_nil fun σ H Q ⟨s, F, S, p⟩ => p [] F H (Ent.refl S.fh) .nil
theorem va_cons (ha : VE X cl En W O e f) (hr : VA X cl En W O es fa) (hs : starEach (e :: es) X.env = (false, eval e X.env) :: starEach es X.env := by rfl) : VA X cl En W O (e :: es) (aC f fa) :=
  PA.weak (pa_cons ha hr hs) fun σ H Q ⟨s, F, S, p⟩ => ⟨s, F, S, p.bind fun d _ p1 v F1 H1 e1 r1 => ⟨s, F1, S.grow e1, (p1.grow e1).bind fun ds _ p2 vs F2 H2 e2 r2 => p2 _ F2 H2 (e1.trans e2) (.cons (r1.mono e2.f) r2)⟩⟩
theorem ve_tup {k} (h : VA X cl En W O es fa) : VE X cl En W O (.Tuple es k pos) (eTup fa) := PE.weak (pe_tup h) fun σ H Q ⟨s, F, S, p⟩ => ⟨s, F, S, p.bind fun ds _ p1 vs F1 H1 e1 r1 => by
  by_cases hl : ds.length ≤ lim
  · rw [if_pos hl] at p1
    refine ⟨by rw [r1.length]; exact Nat.le_trans hl lim_le, fun q hq => p1 _ _ _ (e1.trans (Ent.new e1.fh hq)) (.tup (.inl (.inl upd_same)) (r1.mono (Ent.new e1.fh hq).f))⟩
  · rw [if_neg hl] at p1; exact p1.elim⟩
theorem vo_lst (h : VA X cl En W O es fa) : VO X cl En W O (.List es pos) (eLst fa) := PE.weak (pe_lst h) fun σ H Q ⟨s, F, S, p⟩ => ⟨s, F, S, p.bind fun ds _ p1 vs F1 H1 e1 r1 => by
  by_cases hl : ds.length ≤ lim
  · rw [if_pos hl] at p1
    refine ⟨by rw [r1.length]; exact Nat.le_trans hl lim_le, fun q hq => p1 _ _ _ _ (e1.trans (Ent.cell e1.fh hq)) (e1.h.free hq) upd_same (e1.fh.free hq) (.lst r1)⟩
  · rw [if_neg hl] at p1; exact p1.elim⟩
/-! ### operations on values -/
/-- the reading of a two-place operation that is g on data -/
def rG (K : PySem.W.Frag) (cl : Ctx) (g : D → D → R D) : R2 := fun x y H Q => ∃ F dx dy d, Same F H ∧ RpB K cl F H x dx ∧ RpB K cl F H y dy ∧ g dx dy = .ok d ∧ ∀ v F' H', Ent F H F' H' → Rp K cl F' v d → Q v H'
def NoX2 (g : D → D → R D) : Prop := ∀ x y c fs, g x y ≠ .exc c fs
def NoX1 (g : D → R D) : Prop := ∀ x c fs, g x ≠ .exc c fs
theorem ve_tOp {g : D → D → R D} {fa fb : Sl → R D} {ta tb : TE} {op : R2} (hx : NoX2 g) (hop : ∀ x y H Q, rG X.K cl g x y H Q → op x y H Q) (σ : L2.St) (H : Hp) (Q : VK) (h : tV X cl En W O (e2 g fa fb) σ H Q) :
    tOp op (tB X cl En W O fa) (tB X cl En W O fb) σ H Q := by
  obtain ⟨s, F, S, p⟩ := h
  refine ⟨s, F, S, p.bind fun dx _ p1 x F1 H1 e1 r1 => ⟨s, F1, S.grow e1, (p1.grow e1).bind fun dy _ p2 y F2 H2 e2 r2 => hop _ _ _ _ ?_⟩⟩
  cases q : g dx dy with
  | ok d => rw [q] at p2; exact ⟨F2, dx, dy, d, e2.fh, r1.grow e2, r2, q, fun v F' H' e' r => p2 v F' H' ((e1.trans e2).trans e') r⟩
  | exc c fs => exact absurd q (hx _ _ _ _)
  | bad => rw [q] at p2; exact p2.elim
theorem ve_bin {op : Operator} {g : D → D → R D} {fa fb : Sl → R D} (ho : OpR X (binaryOp op) (rG X.K cl g)) (hx : NoX2 g) (ha : VB X cl En W O a fa) (hb : VB X cl En W O b fb) : VE X cl En W O (.BinOp a op b pos) (e2 g fa fb) :=
  PE.weak (pe_op ho ha hb) (ve_tOp (ta := tB X cl En W O fa) (tb := tB X cl En W O fb) hx fun _ _ _ _ h => h)
theorem ve_cmp {op : CmpOp} {g : D → D → R D} {fa fb : Sl → R D} (ho : OpR X (compareOp op) (rG X.K cl g)) (hx : NoX2 g) (ha : VB X cl En W O a fa) (hb : VB X cl En W O b fb) (hm : behindInMarks op b = false := by rfl) :
    VE X cl En W O (.Compare a [op] [b] pos) (e2 g fa fb) :=
  PE.weak (pe_cmpR ho ha hb hm) (ve_tOp (ta := tB X cl En W O fa) (tb := tB X cl En W O fb) hx fun _ _ _ _ h => h)
theorem ve_ix {g : D → D → R D} {fa fb : Sl → R D} (ho : IxR X (rG X.K cl g)) (hx : NoX2 g) (ha : VB X cl En W O a fa) (hb : VB X cl En W O b fb) (hs : PlainIx b := by exact fun _ _ => rfl) : VE X cl En W O (.Subscript a b pos) (e2 g fa fb) :=
  PE.weak (pe_ix ho ha hb hs) (ve_tOp (ta := tB X cl En W O fa) (tb := tB X cl En W O fb) hx fun _ _ _ _ h => h)
/-- one place -/
def rG1 (K : PySem.W.Frag) (cl : Ctx) (g : D → R D) : V → Hp → VK → Prop := fun x H Q => ∃ F dx d, Same F H ∧ RpB K cl F H x dx ∧ g dx = .ok d ∧ ∀ v F' H', Ent F H F' H' → Rp K cl F' v d → Q v H'
theorem ve_t1 {g : D → R D} {fa : Sl → R D} (hx : NoX1 g) (σ : L2.St) (H : Hp) (Q : VK) (h : tV X cl En W O (e1 g fa) σ H Q) : tB X cl En W O fa σ H fun x H1 => rG1 X.K cl g x H1 Q := by
  obtain ⟨s, F, S, p⟩ := h
  refine ⟨s, F, S, p.bind fun dx _ p1 x F1 H1 e1 r1 => ?_⟩
  cases q : g dx with
  | ok d => rw [q] at p1; exact ⟨F1, dx, d, e1.fh, r1, q, fun v F' H' e' r => p1 v F' H' (e1.trans e') r⟩
  | exc c fs => exact absurd q (hx _ _ _)
  | bad => rw [q] at p1; exact p1.elim
theorem ve_un {op : UnaryOp} {g : D → R D} {fa : Sl → R D} (ho : UnR X (unaryOp op) (rG1 X.K cl g)) (hx : NoX1 g) (ha : VB X cl En W O a fa) : VE X cl En W O (.UnaryOp op a pos) (e1 g fa) :=
  PE.weak (pe_un ho ha) (ve_t1 hx)
/-! ### tests -/
theorem vt_val (h : VE X cl En W O e f) (hs : ∀ (whole : Sem Value), PySem.isTrue e X.env whole = (do
          let v ← whole
          standAt e.pos
          holding [v] (truthy v)) := by intro _; rfl) : VT X cl En W O e (tVal f) :=
  PT.weak (pt_val h hs) fun σ H Q ⟨s, F, S, p⟩ => ⟨s, F, S, p.bind fun d _ p1 v F1 H1 e1 r1 => by
    cases d <;> first | exact p1.elim | skip
    cases r1
    exact ⟨_, rfl, p1 F1 H1 e1⟩⟩
theorem vt_cmp {op : CmpOp} {g : D → D → R D} {fa fb : Sl → R D} (ho : OpR X (compareOp op) (rG X.K cl g)) (hx : NoX2 g) (ha : VB X cl En W O a fa) (hb : VB X cl En W O b fb) (hm : behindInMarks op b = false := by rfl) :
    VT X cl En W O (.Compare a [op] [b] pos) (tVal (e2 g fa fb)) :=
  PT.weak (pt_cmpR ho ha hb hm) fun σ H Q ⟨s, F, S, p⟩ => by
    refine ve_tOp (ta := tB X cl En W O fa) (tb := tB X cl En W O fb) hx (fun _ _ _ _ h => h) σ H (fun x H' => ∃ k, x = .bl k ∧ Q k H') ⟨s, F, S, p.bind fun d hd p1 => ?_⟩
    intro v F1 H1 e1 r1
    cases d <;> first | exact p1.elim | skip
    cases r1
    exact ⟨_, rfl, p1 F1 H1 e1⟩
theorem vt_not {f1 : Sl → R Bool} (h : VT X cl En W O e f1) : VT X cl En W O (.UnaryOp .Not e pos) (tNotD f1) := PT.weak (pt_not h) fun σ H Q ⟨s, F, S, p⟩ => ⟨s, F, S, p.bind fun d _ p1 F1 H1 e1 => p1 F1 H1 e1⟩
theorem vt_w {f1 : Sl → R Bool} (h : VW X cl En W O e f1) : VT X cl En W O e f1 := PW.pt h
theorem vw_and {es : List Expr} {f1 f2 : Sl → R Bool} (h1 : VT X cl En W O a f1) (h2 : VW X cl En W O (.BoolOp .And (b :: es) pos) f2) : VW X cl En W O (.BoolOp .And (a :: b :: es) pos) (tAndD f1 f2) :=
  PW.weak (pw_and h1 h2) fun σ H Q ⟨s, F, S, p⟩ => ⟨s, F, S, p.bind fun d _ p1 F1 H1 e1 => by
    cases d with
    | true => exact iteT ⟨s, F1, S.grow e1, (p1.grow e1).imp fun b _ q F2 H2 e2 => q F2 H2 (e1.trans e2)⟩
    | false => exact iteF (p1 F1 H1 e1)⟩
theorem vw_and1 {f1 : Sl → R Bool} (h1 : VT X cl En W O a f1) : VW X cl En W O (.BoolOp .And [a] pos) f1 := pw_and1 h1
theorem vw_or {es : List Expr} {f1 f2 : Sl → R Bool} (h1 : VT X cl En W O a f1) (h2 : VW X cl En W O (.BoolOp .Or (b :: es) pos) f2) : VW X cl En W O (.BoolOp .Or (a :: b :: es) pos) (tOrD f1 f2) :=
  PW.weak (pw_or h1 h2) fun σ H Q ⟨s, F, S, p⟩ => ⟨s, F, S, p.bind fun d _ p1 F1 H1 e1 => by
    cases d with
    | true => exact iteT (p1 F1 H1 e1)
    | false => exact iteF ⟨s, F1, S.grow e1, (p1.grow e1).imp fun b _ q F2 H2 e2 => q F2 H2 (e1.trans e2)⟩⟩
theorem vw_or1 {f1 : Sl → R Bool} (h1 : VT X cl En W O a f1) : VW X cl En W O (.BoolOp .Or [a] pos) f1 := pw_or1 h1
/-! ### and, or, not, if as values -/
theorem ve_not (h : VE X cl En W O e f) : VE X cl En W O (.UnaryOp .Not e pos) (e1 notD f) := PE.weak (pe_not h) fun σ H Q ⟨s, F, S, p⟩ => ⟨s, F, S, p.bind fun d _ p1 v F1 H1 e1 r1 => by
  cases d <;> first | exact p1.elim | skip
  cases r1
  exact ⟨_, rfl, p1 _ F1 H1 e1 (.bl _)⟩⟩
theorem ve_one (h : VE X cl En W O e f) (op) : VE X cl En W O (.BoolOp op [e] pos) f := pe_one h
theorem ve_and {es : List Expr} (h1 : VE X cl En W O a f) (h2 : VE X cl En W O (.BoolOp .And (b :: es) pos) g) : VE X cl En W O (.BoolOp .And (a :: b :: es) pos) (eAnd f g) :=
  PE.weak (pe_and h1 h2) fun σ H Q ⟨s, F, S, p⟩ => ⟨s, F, S, p.bind fun d hd p1 v F1 H1 e1 r1 => by
    cases d <;> first | exact p1.elim | skip
    rename_i k
    cases r1
    refine ⟨k, rfl, ?_⟩
    cases k with
    | true => exact iteT ⟨s, F1, S.grow e1, (p1.grow e1).imp fun b _ q v F2 H2 e2 r => q v F2 H2 (e1.trans e2) r⟩
    | false => exact iteF (p1 _ F1 H1 e1 (.bl _))⟩
theorem ve_or {es : List Expr} (h1 : VE X cl En W O a f) (h2 : VE X cl En W O (.BoolOp .Or (b :: es) pos) g) : VE X cl En W O (.BoolOp .Or (a :: b :: es) pos) (eOr f g) :=
  PE.weak (pe_or h1 h2) fun σ H Q ⟨s, F, S, p⟩ => ⟨s, F, S, p.bind fun d hd p1 v F1 H1 e1 r1 => by
    cases d <;> first | exact p1.elim | skip
    rename_i k
    cases r1
    refine ⟨k, rfl, ?_⟩
    cases k with
    | true => exact iteT (p1 _ F1 H1 e1 (.bl _))
    | false => exact iteF ⟨s, F1, S.grow e1, (p1.grow e1).imp fun b _ q v F2 H2 e2 r => q v F2 H2 (e1.trans e2) r⟩⟩
theorem ve_if {f1 : Sl → R Bool} (hc : VT X cl En W O c f1) (h1 : VE X cl En W O a f) (h2 : VE X cl En W O b g) : VE X cl En W O (.IfExp c a b pos) (eIf f1 f g) :=
  PE.weak (pe_ifExp hc h1 h2) fun σ H Q ⟨s, F, S, p⟩ => ⟨s, F, S, p.bind fun d _ p1 F1 H1 e1 => by
    cases d with
    | true => exact iteT ⟨s, F1, S.grow e1, (p1.grow e1).imp fun b _ q v F2 H2 e2 r => q v F2 H2 (e1.trans e2) r⟩
    | false => exact iteF ⟨s, F1, S.grow e1, (p1.grow e1).imp fun b _ q v F2 H2 e2 r => q v F2 H2 (e1.trans e2) r⟩⟩
end
end VS
namespace VS
open PySem PySem.Spec PyProof.Rows L2
/-- how a statement ends -/
inductive Out where
  | nx (s : Sl) | rt (d : D) | bk (s : Sl) | ct (s : Sl) | ex (c : String) (fs : List (String × D)) (s : Sl) | bad
def lift {α : Type} (r : R α) (s : Sl) (k : α → Out) : Out := match r with
  | .ok a => k a
  | .exc c fs => .ex c fs s
  | .bad => .bad
@[simp] theorem lift_ok {α : Type} (a : α) (s : Sl) (k : α → Out) : lift (.ok a) s k = k a := rfl
@[simp] theorem lift_bad {α : Type} (s : Sl) (k : α → Out) : lift (.bad : R α) s k = .bad := rfl
@[simp] theorem lift_exc {α : Type} (c fs) (s : Sl) (k : α → Out) : lift (.exc c fs : R α) s k = .ex c fs s := rfl
theorem SlOk.freezeAll {K : PySem.W.Frag} {cl : Ctx} {En : Ety} {H : Hp} {s : Sl} {σ : L2.St} : ∀ (O : List Nat) {F : Hp}, SlOk K cl En O s σ F H → ∃ F', Same F F' ∧ SlOk K cl En [] s σ F' H
  | [], F, S => ⟨F, Same.refl F, S⟩
  | i :: O, F, S => by
    obtain ⟨F1, e1, S1⟩ := S.freeze i
    have hl : ((i :: O).filter (· ≠ i)).length ≤ O.length := by
      rw [List.filter_cons]
      simp only [ne_eq, not_true_eq_false, decide_false, Bool.false_eq_true, if_false]
      exact List.length_filter_le _ _
    obtain ⟨F2, e2, S2⟩ := SlOk.freezeAll ((i :: O).filter (· ≠ i)) S1
    exact ⟨F2, e1.trans e2, S2⟩
termination_by O => O.length
decreasing_by simp only [List.length_cons]; omega
/-- fewer owners -/
theorem SlOk.filter {K : PySem.W.Frag} {cl : Ctx} {En : Ety} {F H : Hp} {O : List Nat} {s : Sl} {σ : L2.St} {i : Nat} (S : SlOk K cl En O s σ F H) (hme : En.me = none ∨ i ≠ 0) {v : V} {d : D} (r : Rp K cl F v d) :
    SlOk K cl En (O.filter (· ≠ i)) (s.set i (some d)) (σ.set i (some v)) F H := by
  have mem : ∀ j, j ∈ O.filter (· ≠ i) ↔ j ∈ O ∧ j ≠ i := fun j => by simp
  refine ⟨by simp [S.len], fun j e hj hs => ?_, fun j e hj hs => ?_, fun j k e e' a hj hk hs hs' h1 h2 => ?_, S.ent, S.meSet hme⟩
  · rcases set_get hs with ⟨h1, h2, h3⟩ | ⟨h1, h2⟩
    · subst h1; cases h2
      exact ⟨v, by rw [List.getElem?_set_self (by rw [← S.len]; exact h3)], r⟩
    · rw [List.getElem?_set_ne h1]
      exact S.val j e (fun z => hj ((mem j).mpr ⟨z, fun q => h1 q.symm⟩)) h2
  · obtain ⟨g1, g2⟩ := (mem j).mp hj
    have h1 : i ≠ j := fun z => g2 z.symm
    rw [List.getElem?_set_ne h1] at hs ⊢
    exact S.own j e g1 hs
  · obtain ⟨g1, g2⟩ := (mem j).mp hj
    obtain ⟨g3, g4⟩ := (mem k).mp hk
    have e1 : i ≠ j := fun z => g2 z.symm
    have e2 : i ≠ k := fun z => g4 z.symm
    rw [List.getElem?_set_ne e1] at hs h1
    rw [List.getElem?_set_ne e2] at hs' h2
    exact S.dist j k e e' a g1 g3 hs hs' h1 h2
def ins (i : Nat) (O : List Nat) : List Nat := if i ∈ O then O else i :: O
theorem mem_ins {i j : Nat} {O : List Nat} : j ∈ ins i O ↔ j = i ∨ j ∈ O := by
  unfold ins
  split
  · constructor
    · exact .inr
    · rintro (rfl | h)
      · assumption
      · exact h
  · simp

section
variable (X : Cx) (cl : Ctx) (En : Ety) (W : WX) (ro : Bool) (OB O' : List Nat)
def PstS (F : Hp) (E : Ends) : Out → Prop
  | .nx s' => ∀ σ' F' H', Same F F' → SlOk X.K cl En O' s' σ' F' H' → E.nx σ' H'
  | .rt d => if ro = true then ∀ a o F' H', Ent En.F0 En.H0 F' H' → En.H0 a = none → H' a = some o → F' a = none → Cell X.K cl F' a o d → E.rt (.ref a) H' else ∀ v F' H', Ent En.F0 En.H0 F' H' → Rp X.K cl F' v d → E.rt v H'
  | .bk s' => ∀ σ' F' H', Same F F' → SlOk X.K cl En OB s' σ' F' H' → E.bk σ' H'
  | .ct s' => ∀ σ' F' H', Same F F' → SlOk X.K cl En OB s' σ' F' H' → E.ct σ' H'
  | .ex c fs s' => ∀ C e σ' F' H', Same F F' → SlOk X.K cl En [] s' σ' F' H' → ExRp X.K cl F' H' c fs C e → W C e σ' H'
  | .bad => False
def tS (O : List Nat) (g : Sl → Out) : TS := fun E σ H => ∃ s F, SlOk X.K cl En O s σ F H ∧ PstS X cl En W ro OB O' F E (g s)
end
def VS (X : Cx) (cl : Ctx) (En : Ety) (W : WX) (ro : Bool) (OB O O' : List Nat) (st : Stmt) (g : Sl → Out) : Prop := PS X st (tS X cl En W ro OB O' O g)
def VSs (X : Cx) (cl : Ctx) (En : Ety) (W : WX) (ro : Bool) (OB O O' : List Nat) (st : List Stmt) (g : Sl → Out) : Prop := PSs X st (tS X cl En W ro OB O' O g)

section
variable {X : Cx} {cl : Ctx} {En : Ety} {F F1 H : Hp} {W : WX} {ro : Bool} {OB O O1 O' : List Nat} {E : Ends} {o : Out} {s : Sl} {σ : L2.St}
theorem PstS.mono (h : PstS X cl En W ro OB O' F E o) (e : Same F F1) : PstS X cl En W ro OB O' F1 E o := by
  cases o with
  | nx s => exact fun σ' F' H' e' => h σ' F' H' (e.trans e')
  | rt d => exact h
  | bk s => exact fun σ' F' H' e' => h σ' F' H' (e.trans e')
  | ct s => exact fun σ' F' H' e' => h σ' F' H' (e.trans e')
  | ex c fs s => exact fun C x σ' F' H' e' => h C x σ' F' H' (e.trans e')
  | bad => exact h
theorem PstS.lift {α : Type} {r : R α} {k : α → Out} {P : α → Prop} (S : SlOk X.K cl En O s σ F H) (h : PstS X cl En W ro OB O' F E (VS.lift r s k)) (hk : ∀ a, r = .ok a → PstS X cl En W ro OB O' F E (k a) → P a) : Pst X.K cl W σ F H P r := by
  cases r with
  | ok a => exact hk a rfl h
  | exc c fs =>
    intro C e F' H' en ⟨Ca, d, vs, q1, q2, q3, q4, q5⟩
    obtain ⟨F2, sm, S2⟩ := SlOk.freezeAll O (S.grow en)
    exact h C e σ F2 H' (en.f.trans sm) S2 ⟨Ca, d, vs, q1, q2, q3, q4, q5.mono sm⟩
  | bad => exact h
theorem PstS.ret {d : D} (h : PstS X cl En W false OB O' F E (.rt d)) : ∀ v F' H', Ent En.F0 En.H0 F' H' → Rp X.K cl F' v d → E.rt v H' := h
theorem PstS.retO {d : D} (h : PstS X cl En W true OB O' F E (.rt d)) : ∀ a o F' H', Ent En.F0 En.H0 F' H' → En.H0 a = none → H' a = some o → F' a = none → Cell X.K cl F' a o d → E.rt (.ref a) H' := h
end

/-! ### meanings -/
abbrev S1 := Sl → Out
def sNx : S1 := .nx
def sSeq (a b : S1) : S1 := fun s => match a s with | .nx s' => b s' | o => o
def sSet (i : Nat) (f : Sl → R D) : S1 := fun s => lift (f s) s fun d => .nx (s.set i (some d))
def sRet (f : Sl → R D) : S1 := fun s => lift (f s) s .rt
def sRetN : S1 := fun _ => .rt .non
def sIf (c : Sl → R Bool) (a b : S1) : S1 := fun s => lift (c s) s fun k => if k then a s else b s
def sDrop (f : Sl → R D) : S1 := fun s => lift (f s) s fun _ => .nx s
def fLoop (g : D → Sl → R Sl) (b : S1) : List D → Sl → Out
  | [], s => .nx s
  | d :: ds, s => match g d s with
    | .ok s1 => (match b s1 with
      | .nx s2 => fLoop g b ds s2
      | .ct s2 => fLoop g b ds s2
      | .bk s2 => .nx s2
      | o => o)
    | _ => .bad
def sFor (f : Sl → R (List D)) (g : D → Sl → R Sl) (b : S1) : S1 := fun s => lift (f s) s fun ds => fLoop g b ds s
def wLoop (c : Sl → R Bool) (b : S1) : Nat → Sl → Out
  | 0, _ => .bad
  | n + 1, s => lift (c s) s fun k => if k then (match b s with
    | .nx s2 => wLoop c b n s2
    | .ct s2 => wLoop c b n s2
    | .bk s2 => .nx s2
    | o => o) else .nx s
def sWhile (n : Nat) (c : Sl → R Bool) (b : S1) : S1 := fun s => wLoop c b n s
/-- targets -/
def gN (i : Nat) : D → Sl → R Sl := fun d s => .ok (s.set i (some d))
def gT (gs : List D → Sl → R Sl) : D → Sl → R Sl := fun d s => match d with | .tup ds => gs ds s | _ => .bad
def gsN : List D → Sl → R Sl := fun ds s => match ds with | [] => .ok s | _ => .bad
def gsC (g : D → Sl → R Sl) (gs : List D → Sl → R Sl) : List D → Sl → R Sl := fun ds s => match ds with | d :: r => (g d s).bind (gs r) | [] => .bad
def startD (N : Nat) (ds : List D) : Sl := ds.map some ++ List.replicate (N - ds.length) none
def outD : Out → R D
  | .rt d => .ok d
  | .nx _ => .ok .non
  | .ex c fs _ => .exc c fs
  | _ => .bad
def dDef (N : Nat) (b : S1) : List D → R D := fun ds => outD (b (startD N ds))

section
variable {X : Cx} {cl : Ctx} {En : Ety} {W : WX} {ro : Bool} {OB O O1 O' : List Nat} {e c : Expr} {st : Stmt} {sts r : List Stmt} {f : Sl → R D} {g g1 g2 : S1} {pos : Pos}
theorem vss_nil : VSs X cl En W ro OB O O [] sNx := PSs.weak pss_nil fun E σ H ⟨s, F, S, p⟩ => p σ F H (Same.refl F) S
theorem tS_seq {E : Ends} {σ : L2.St} {H : Hp} (h : tS X cl En W ro OB O' O (sSeq g1 g2) E σ H) : tSeq (tS X cl En W ro OB O1 O g1) (tS X cl En W ro OB O' O1 g2) E σ H := by
  obtain ⟨s, F, S, p⟩ := h
  refine ⟨s, F, S, ?_⟩
  unfold sSeq at p
  cases q : g1 s with
  | nx s' => rw [q] at p; exact fun σ' F' H' e S' => ⟨s', F', S', p.mono e⟩
  | rt d => rw [q] at p; exact p
  | bk s => rw [q] at p; exact p
  | ct s => rw [q] at p; exact p
  | ex c fs s => rw [q] at p; exact p
  | bad => rw [q] at p; exact p
theorem vss_cons (h1 : VS X cl En W ro OB O O1 st g1) (h2 : VSs X cl En W ro OB O1 O' r g2) : VSs X cl En W ro OB O O' (st :: r) (sSeq g1 g2) := PSs.weak (pss_cons h1 h2) fun _ _ _ h => tS_seq h
theorem vss_one (h1 : VS X cl En W ro OB O O' st g) : VSs X cl En W ro OB O O' [st] g := pss_one h1
/-- a slot is frozen ahead -/
theorem vss_frz (i : Nat) (h : VSs X cl En W ro OB (O.filter (· ≠ i)) O' sts g) : VSs X cl En W ro OB O O' sts g := PSs.weak h fun E σ H ⟨s, F, S, p⟩ => by
  obtain ⟨F', e, S'⟩ := S.freeze i
  exact ⟨s, F', S', p.mono e⟩
theorem vs_frz (i : Nat) (h : VS X cl En W ro OB (O.filter (· ≠ i)) O' st g) : VS X cl En W ro OB O O' st g := PS.weak h fun E σ H ⟨s, F, S, p⟩ => by
  obtain ⟨F', e, S'⟩ := S.freeze i
  exact ⟨s, F', S', p.mono e⟩
/-- .. behind -/
theorem vs_frzB (i : Nat) (h : VS X cl En W ro OB O O' st g) : VS X cl En W ro OB O (O'.filter (· ≠ i)) st g := PS.weak h fun E σ H ⟨s, F, S, p⟩ => by
  refine ⟨s, F, S, ?_⟩
  cases q : g s with
  | nx s' =>
    rw [q] at p
    intro σ' F' H' e S'
    obtain ⟨F2, e2, S2⟩ := S'.freeze i
    exact p σ' F2 H' (e.trans e2) S2
  | rt d => rw [q] at p; exact p
  | bk s => rw [q] at p; exact p
  | ct s => rw [q] at p; exact p
  | ex c fs s => rw [q] at p; exact p
  | bad => rw [q] at p; exact p
theorem vss_frzB (i : Nat) (h : VSs X cl En W ro OB O O' sts g) : VSs X cl En W ro OB O (O'.filter (· ≠ i)) sts g := PSs.weak h fun E σ H ⟨s, F, S, p⟩ => by
  refine ⟨s, F, S, ?_⟩
  cases q : g s with
  | nx s' =>
    rw [q] at p
    intro σ' F' H' e S'
    obtain ⟨F2, e2, S2⟩ := S'.freeze i
    exact p σ' F2 H' (e.trans e2) S2
  | rt d => rw [q] at p; exact p
  | bk s => rw [q] at p; exact p
  | ct s => rw [q] at p; exact p
  | ex c fs s => rw [q] at p; exact p
  | bad => rw [q] at p; exact p
/-! ### small statements -/
theorem vs_pass : VS X cl En W ro OB O O (.Pass pos) sNx := PS.weak ps_pass fun E σ H ⟨s, F, S, p⟩ => p σ F H (Same.refl F) S
theorem vs_doc {x j p'} : VS X cl En W ro OB O O (.Expr (.Constant (.str x) j p') pos) sNx := PS.weak ps_doc fun E σ H ⟨s, F, S, p⟩ => p σ F H (Same.refl F) S
theorem vs_brk : VS X cl En W ro O O O' (.Break pos) .bk := PS.weak ps_break fun E σ H ⟨s, F, S, p⟩ => p σ F H (Same.refl F) S
theorem vs_cont : VS X cl En W ro O O O' (.Continue pos) .ct := PS.weak ps_continue fun E σ H ⟨s, F, S, p⟩ => p σ F H (Same.refl F) S
theorem vs_never : VS X cl En W ro OB O O' st (fun _ => .bad) := ⟨fun _ _ _ _ _ _ ⟨_, _, _, p⟩ => p.elim⟩
theorem vss_never : VSs X cl En W ro OB O O' sts (fun _ => .bad) := ⟨fun _ _ _ _ _ _ ⟨_, _, _, p⟩ => p.elim⟩
theorem vs_drop (h : VE X cl En W O e f) (hs : swapsWith e none pos.line X.env = pure false := by rfl) : VS X cl En W ro OB O O (.Expr e pos) (sDrop f) :=
  PS.weak (ps_expr h hs) fun E σ H ⟨s, F, S, p⟩ => ⟨s, F, S, PstS.lift S p fun d _ q v F' H' e r => q σ F' H' e.f (S.grow e)⟩
theorem vs_ret (h : VE X cl En W O e f) : VS X cl En W false OB O O' (.Return (some e) pos) (sRet f) :=
  PS.weak (ps_ret h) fun E σ H ⟨s, F, S, p⟩ => ⟨s, F, S, PstS.lift S p fun d _ q v F' H' e r => PstS.ret q v F' H' (S.ent.trans e) r⟩
theorem vs_retO (h : VO X cl En W O e f) : VS X cl En W true OB O O' (.Return (some e) pos) (sRet f) :=
  PS.weak (ps_ret h) fun E σ H ⟨s, F, S, p⟩ => ⟨s, F, S, PstS.lift S p fun d _ q a o F' H' e h1 h2 h3 h4 => PstS.retO q a o F' H' (S.ent.trans e) (S.ent.h.free h1) h2 h3 h4⟩
/-- return name, an owned thing -/
theorem vs_retN (i : Nat) {x : Str} {p' : Pos} (hi : i ∈ O := by decide) (hN : X.N[i]? = some x := by rfl) (hv : Vis X.env.scope x := by first | exact Or.inl rfl | exact Or.inr (Or.inl rfl) | exact Or.inr (Or.inr rfl)) (hd : (x == ("__debug__" : Str)) = false := by decide)
    (hcd : (x == ("__classdict__" : Str)) = false := by decide) : VS X cl En W true OB O O' (.Return (some (.Name x p')) pos) (sRet (eN i)) := PS.weak (ps_ret (pe_var hN hv hd hcd)) fun E σ H ⟨s, F, S, p⟩ => by
  unfold sRet eN at p
  cases q : s[i]? with
  | none => rw [q] at p; exact p.elim
  | some u =>
    cases u with
    | none => rw [q] at p; exact p.elim
    | some d =>
      rw [q] at p
      obtain ⟨a, o, h1, h2, h3, h4, h5⟩ := S.own i d hi q
      exact ⟨_, h1, PstS.retO p a o F H S.ent h4 h2 h3 h5⟩
theorem vs_retNone : VS X cl En W false OB O O' (.Return none pos) sRetN := PS.weak ps_retN fun E σ H ⟨s, F, S, p⟩ => PstS.ret p .non F H S.ent .non
theorem vs_if {tc : Sl → R Bool} {as bs : List Stmt} (hc : VT X cl En W O c tc) (ha : VSs X cl En W ro OB O O' as g1) (hb : VSs X cl En W ro OB O O' bs g2) : VS X cl En W ro OB O O' (.If c as bs pos) (sIf tc g1 g2) :=
  PS.weak (ps_if hc ha hb) fun E σ H ⟨s, F, S, p⟩ => ⟨s, F, S, PstS.lift S p fun k _ q F' H' e => by
    cases k with
    | true => exact iteT ⟨s, F', S.grow e, q.mono e.f⟩
    | false => exact iteF ⟨s, F', S.grow e, q.mono e.f⟩⟩
/-! ### stores of names -/
theorem vs_set {i : Nat} {x : Str} {p' : Pos} (hN : X.N.Nodup) (h : VE X cl En W O e f) (hi : X.N[i]? = some x := by rfl) (hx : Loc X.env.scope x := by first | exact Or.inl rfl | exact Or.inr rfl) (hs : swapsWith e (some (.Name x p')) pos.line X.env = pure false := by rfl)
    (hf : X.fn x = true ∨ X.env.scope.names.lookup x = some .local := by first | exact .inl rfl | exact .inr rfl | assumption) (hme : En.me = none ∨ i ≠ 0 := by first | exact .inl rfl | exact .inr (by decide)) : VS X cl En W ro OB O (O.filter (· ≠ i)) (.Assign [.Name x p'] e pos) (sSet i f) :=
  PS.weak (ps_set hN hi hx h hs hf) fun E σ H ⟨s, F, S, p⟩ => ⟨s, F, S, PstS.lift S p fun d _ q v F' H' e r => q _ F' H' e.f ((S.grow e).filter hme r)⟩
theorem vs_setO {i : Nat} {x : Str} {p' : Pos} (hN : X.N.Nodup) (h : VO X cl En W O e f) (hi : X.N[i]? = some x := by rfl) (hx : Loc X.env.scope x := by first | exact Or.inl rfl | exact Or.inr rfl) (hs : swapsWith e (some (.Name x p')) pos.line X.env = pure false := by rfl)
    (hf : X.fn x = true ∨ X.env.scope.names.lookup x = some .local := by first | exact .inl rfl | exact .inr rfl | assumption) (hme : En.me = none ∨ i ≠ 0 := by first | exact .inl rfl | exact .inr (by decide)) : VS X cl En W ro OB O (ins i O) (.Assign [.Name x p'] e pos) (sSet i f) :=
  PS.weak (ps_set hN hi hx h hs hf) fun E σ H ⟨s, F, S, p⟩ => ⟨s, F, S, PstS.lift S p fun d _ q a o F' H' e h1 h2 h3 h4 => q _ F' H' e.f
    ((S.grow e).take hme (fun j hj => mem_ins.mp hj) (fun j hj => .inr (mem_ins.mpr (.inr hj))) (mem_ins.mpr (.inl rfl)) h2 h3 (S.ent.h.free h1) h4 fun j hj z hz w => by
      obtain ⟨b, u, g1, g2, g3, g4, g5⟩ := S.own j z hj hz
      rw [g1] at w
      cases w
      rw [h1] at g2
      cases g2)⟩
end
end VS
namespace VS
open PySem PySem.Spec PyProof.Rows L2
theorem PG.weak {X : Cx} {e : Expr} {t t' : TG} (h : PG X e t) (i : ∀ v σ H Q, t' v σ H Q → t v σ H Q) : PG X e t' := ⟨fun pins s σ H v u Q I r q => h.run pins s σ H v u Q I r (i v σ H Q q)⟩
theorem PGs.weak {X : Cx} {e : List Expr} {t t' : TGs} (h : PGs X e t) (i : ∀ v σ H Q, t' v σ H Q → t v σ H Q) : PGs X e t' := ⟨fun pins s σ H v u Q I r q => h.run pins s σ H v u Q I r (i v σ H Q q)⟩
theorem PI.weak {X : Cx} {tg e : Expr} {t t' : TI} (h : PI X tg e t) (i : ∀ σ H R, t' σ H R → t σ H R) : PI X tg e t' := ⟨fun pins s σ H R I q => h.run pins s σ H R I (i σ H R q)⟩
section
variable (X : Cx) (cl : Ctx) (En : Ety) (W : WX) (O : List Nat)
/-- a target takes a value -/
def Only (is : List Nat) (σ σ' : L2.St) : Prop := σ'.length = σ.length ∧ ∀ j, j ∉ is → σ'[j]? = σ[j]?
def tG (is : List Nat) (g : D → Sl → R Sl) : TG := fun v σ H Q => ∃ s F d, SlOk X.K cl En O s σ F H ∧ Rp X.K cl F v d ∧ match g d s with | .ok s' => ∀ σ', SlOk X.K cl En O s' σ' F H → Only is σ σ' → Q σ' H | _ => False
def tGs (is : List Nat) (g : List D → Sl → R Sl) : TGs := fun vs σ H Q => ∃ s F ds, SlOk X.K cl En O s σ F H ∧ RpA X.K cl F vs ds ∧ match g ds s with | .ok s' => ∀ σ', SlOk X.K cl En O s' σ' F H → Only is σ σ' → Q σ' H | _ => False
/-- what is walked: the turns of J give the data ds -/
def Wk (J : It) (F : Hp) (ds : List D) : Prop :=
  (∀ F1 H1, Same F F1 → Same F1 H1 → J.stop ds.length H1) ∧
  ∀ (i : Nat) (d : D) F1 H1, Same F F1 → Same F1 H1 → ds[i]? = some d → J.go i H1 ∧ ∀ x H2, J.yld i H1 x H2 → ∃ F2, Ent F1 H1 F2 H2 ∧ Rp X.K cl F2 x d
def tIt (f : Sl → R (List D)) : TI := fun σ H R => ∃ s F, SlOk X.K cl En O s σ F H ∧ Pst X.K cl W σ F H (fun ds => ∀ J F' H', Ent F H F' H' → Wk X cl J F' ds → R J H') (f s)
def VG (is : List Nat) (e : Expr) (g : D → Sl → R Sl) : Prop := PG X e (tG X cl En O is g)
def VGs (is : List Nat) (e : List Expr) (g : List D → Sl → R Sl) : Prop := PGs X e (tGs X cl En O is g)
def VI (tg e : Expr) (f : Sl → R (List D)) : Prop := PI X tg e (tIt X cl En W O f)
end
section
variable {X : Cx} {cl : Ctx} {En : Ety} {F H : Hp} {W : WX} {ro : Bool} {OB O O1 O' : List Nat} {e c tg : Expr} {es : List Expr} {st : Stmt} {sts r : List Stmt} {f : Sl → R D} {g g1 g2 : S1} {pos : Pos} {t : D → Sl → R Sl} {ts : List D → Sl → R Sl} {is is' : List Nat}
theorem vg_name (i : Nat) {x : Str} (hN : X.N.Nodup) (hO : i ∉ O := by decide) (hi : X.N[i]? = some x := by rfl) (hx : Loc X.env.scope x := by first | exact Or.inl rfl | exact Or.inr rfl) (hf : X.fn x = true ∨ X.env.scope.names.lookup x = some .local := by first | exact .inl rfl | exact .inr rfl | assumption) (hme : En.me = none ∨ i ≠ 0 := by first | exact .inl rfl | exact .inr (by decide)) :
    VG X cl En O [i] (.Name x pos) (gN i) := PG.weak (pg_name hN hi hx hf) fun v σ H Q ⟨s, F, d, S, r, p⟩ => p _ (S.put hme hO r) ⟨by simp, fun j hj => List.getElem?_set_ne (fun z => hj (by simp [z]))⟩
theorem vgs_nil : VGs X cl En O [] [] gsN := PGs.weak pgs_nil fun v σ H Q ⟨s, F, ds, S, r, p⟩ => by
  cases r with
  | nil => exact ⟨rfl, p _ S ⟨rfl, fun _ _ => rfl⟩⟩
  | cons _ _ => exact p.elim
theorem vgs_cons (h1 : VG X cl En O is e t) (h2 : VGs X cl En O is' es ts) (hs : (assignEach (e :: es) X.env).map (·.2) = assign e X.env :: (assignEach es X.env).map (·.2) := by rfl) : VGs X cl En O (is ++ is') (e :: es) (gsC t ts) :=
  PGs.weak (pgs_cons h1 h2 hs) fun v σ H Q ⟨s, F, ds, S, r, p⟩ => by
    cases r with
    | nil => exact p.elim
    | @cons v0 vs d ds r1 r2 =>
      refine ⟨v0, vs, rfl, s, F, d, S, r1, ?_⟩
      have p : match (t d s).bind (ts ds) with | .ok s' => ∀ σ', SlOk X.K cl En O s' σ' F H → Only (is ++ is') σ σ' → Q σ' H | _ => False := p
      cases q : t d s with
      | ok s1 =>
        rw [q] at p
        refine fun σ' S' o1 => ⟨s1, F, ds, S', r2, ?_⟩
        have p : match ts ds s1 with | .ok s' => ∀ σ', SlOk X.K cl En O s' σ' F H → Only (is ++ is') σ σ' → Q σ' H | _ => False := p
        cases q2 : ts ds s1 with
        | ok s2 => rw [q2] at p; exact fun σ2 S2 o2 => p σ2 S2 ⟨o2.1.trans o1.1, fun j hj => by
            simp only [List.mem_append, not_or] at hj
            rw [o2.2 j hj.2, o1.2 j hj.1]⟩
        | exc c fs => rw [q2] at p; exact p.elim
        | bad => rw [q2] at p; exact p.elim
      | exc c fs => rw [q] at p; exact p.elim
      | bad => rw [q] at p; exact p.elim
/-- as many as there are targets -/
def TsL (ts : List D → Sl → R Sl) (n : Nat) : Prop := ∀ ds s s', ts ds s = .ok s' → ds.length = n
theorem tsl_nil : TsL gsN 0 := fun ds s s' h => by
  cases ds with
  | nil => rfl
  | cons d ds => cases h
theorem tsl_cons {t : D → Sl → R Sl} {ts : List D → Sl → R Sl} {n : Nat} (h : TsL ts n) : TsL (gsC t ts) (n + 1) := fun ds s s' q => by
  cases ds with
  | nil => cases q
  | cons d ds =>
    have q : (t d s).bind (ts ds) = .ok s' := q
    cases z : t d s with
    | ok s1 => rw [z] at q; rw [List.length_cons, h ds s1 s' q]
    | exc c fs => rw [z] at q; cases q
    | bad => rw [z] at q; cases q
theorem vg_tup {k : Nat} {n : Nat} (hc : X.calm = true) (h : VGs X cl En O is es ts) (hn : (assignEach es X.env).length = n := by rfl) (hst : (assignEach es X.env).findIdx? (·.1) = none := by rfl) (hts : TsL ts n := by repeat (first | exact tsl_nil | refine tsl_cons ?_)) : VG X cl En O is (.Tuple es k pos) (gT ts) :=
  PG.weak (pg_tup hc h hn hst) fun v σ H Q ⟨s, F, d, S, r, p⟩ => by
    cases d <;> first | exact p.elim | skip
    rename_i ds
    cases r with
    | tup hq ra =>
      refine ⟨_, _, rfl, Same.sqt S.fh hq, ?_, s, F, ds, S, ra, p⟩
      rw [ra.length]
      exact Classical.byContradiction fun z => by
        have p' : match ts ds s with | .ok s' => ∀ σ', SlOk X.K cl En O s' σ' F H → Only is σ σ' → Q σ' H | _ => False := p
        cases q : ts ds s with
        | ok s' => exact z (hts ds s s' q)
        | exc c fs => rw [q] at p'; exact p'.elim
        | bad => rw [q] at p'; exact p'.elim
/-! ### for -/
theorem vs_for {iter : Expr} {fi : Sl → R (List D)} {body : List Stmt} {b : S1} (hp : PassesOwn (model X.prog X.w) X.A X.env X.xe) (hc : X.calm = true) (hi : VI X cl En W O tg iter fi) (hg : VG X cl En O is tg t) (hb : VSs X cl En W ro O O O body b)
    (hs : ∀ x, foldedSetIterable iter X.env x = pure x := by intro _; rfl) : VS X cl En W ro OB O O (.For tg iter body [] pos) (sFor fi t b) :=
  PS.weak (ps_for hp hc hi hg hb hs) fun E σ H ⟨s, F, S, p⟩ => ⟨s, F, S, PstS.lift S p fun ds _ q J F1 H1 e1 wk => by
    refine ⟨fun i m σ' H' => m = ds.length - i ∧ i ≤ ds.length ∧ ∃ s' F', Same F1 F' ∧ SlOk X.K cl En O s' σ' F' H' ∧ PstS X cl En W ro OB O F' E (fLoop t b (ds.drop i) s'),
      ⟨ds.length, rfl, Nat.zero_le _, s, F1, Same.refl _, S.grow e1, q.mono e1.f⟩, ?_⟩
    rintro i m σ' H' ⟨hm, hi, s', F', sm, S', q'⟩
    cases hd : ds[i]? with
    | none =>
      have hl : ds.length ≤ i := List.getElem?_eq_none_iff.mp hd
      have : i = ds.length := by omega
      subst this
      rw [List.drop_length] at q'
      exact .inl ⟨wk.1 F' H' sm S'.fh, q' σ' F' H' (Same.refl _) S'⟩
    | some d =>
      obtain ⟨hl, hd'⟩ := List.getElem?_eq_some_iff.mp hd
      obtain ⟨go, yl⟩ := wk.2 i d F' H' sm S'.fh hd
      rw [List.drop_eq_getElem_cons hl, hd'] at q'
      unfold fLoop at q'
      refine .inr ⟨go, fun σ2 H2 => ∃ m', m' < m ∧ (m' = ds.length - (i + 1) ∧ i + 1 ≤ ds.length ∧ ∃ s' F', Same F1 F' ∧ SlOk X.K cl En O s' σ2 F' H2 ∧ PstS X cl En W ro OB O F' E (fLoop t b (ds.drop (i + 1)) s')), fun _ _ h => h, fun x H2 y => ?_⟩
      obtain ⟨F2, en, rx⟩ := yl x H2 y
      refine ⟨s', F2, d, S'.grow en, rx, ?_⟩
      cases ht : t d s' with
      | exc c fs =>
        rw [ht] at q'
        exact q'.elim
      | bad => rw [ht] at q'; exact q'.elim
      | ok s1 =>
        rw [ht] at q'
        intro σ2 S2 _
        refine ⟨s1, F2, S2, ?_⟩
        have q2 : PstS X cl En W ro OB O F2 E (match b s1 with
          | .nx s2 => fLoop t b (ds.drop (i + 1)) s2
          | .ct s2 => fLoop t b (ds.drop (i + 1)) s2
          | .bk s2 => Out.nx s2
          | o => o) := PstS.mono q' en.f
        have nxt : ∀ s2, PstS X cl En W ro OB O F2 E (fLoop t b (ds.drop (i + 1)) s2) → ∀ σ3 F3 H3, Same F2 F3 → SlOk X.K cl En O s2 σ3 F3 H3 → ∃ m', m' < m ∧ (m' = ds.length - (i + 1) ∧ i + 1 ≤ ds.length ∧ ∃ s' F', Same F1 F' ∧ SlOk X.K cl En O s' σ3 F' H3 ∧ PstS X cl En W ro OB O F' E (fLoop t b (ds.drop (i + 1)) s')) :=
          fun s2 q3 σ3 F3 H3 e3 S3 => ⟨ds.length - (i + 1), by omega, rfl, by omega, s2, F3, (sm.trans en.f).trans e3, S3, q3.mono e3⟩
        cases hb' : b s1 with
        | nx s2 => rw [hb'] at q2; exact nxt s2 q2
        | ct s2 => rw [hb'] at q2; exact nxt s2 q2
        | bk s2 => rw [hb'] at q2; exact q2
        | rt d => rw [hb'] at q2; exact q2
        | ex c fs s => rw [hb'] at q2; exact q2
        | bad => rw [hb'] at q2; exact q2⟩
theorem vs_while {body : List Stmt} {b : S1} {tc : Sl → R Bool} (n : Nat) (hp : PassesOwn (model X.prog X.w) X.A X.env X.xe) (hc : VT X cl En W O c tc) (hb : VSs X cl En W ro O O O body b) : VS X cl En W ro OB O O (.While c body [] pos) (sWhile n tc b) :=
  PS.weak (ps_while hp hc hb) fun E σ H ⟨s, F, S, p⟩ => by
    refine ⟨fun m σ' H' => ∃ s' F', Same F F' ∧ SlOk X.K cl En O s' σ' F' H' ∧ PstS X cl En W ro OB O F' E (wLoop tc b m s'), ⟨n, s, F, Same.refl F, S, p⟩, ?_⟩
    rintro m σ' H' ⟨s', F', sm, S', q⟩
    cases m with
    | zero => exact q.elim
    | succ m =>
      unfold wLoop at q
      refine ⟨s', F', S', PstS.lift S' q fun k _ q1 F1 H1 e1 => ?_⟩
      cases k with
      | false => exact iteF (q1 σ' F1 H1 e1.f (S'.grow e1))
      | true =>
        refine iteT ⟨_, fun _ _ h => h, s', F1, S'.grow e1, ?_⟩
        have q2 := PstS.mono q1 e1.f
        have nxt : ∀ s2, PstS X cl En W ro OB O F1 E (wLoop tc b m s2) → ∀ σ3 F3 H3, Same F1 F3 → SlOk X.K cl En O s2 σ3 F3 H3 → ∃ m', m' < m + 1 ∧ ∃ s' F', Same F F' ∧ SlOk X.K cl En O s' σ3 F' H3 ∧ PstS X cl En W ro OB O F' E (wLoop tc b m' s') :=
          fun s2 q3 σ3 F3 H3 e3 S3 => ⟨m, Nat.lt_succ_self m, s2, F3, (sm.trans e1.f).trans e3, S3, q3.mono e3⟩
        rw [if_pos rfl] at q2
        cases hb' : b s' with
        | nx s2 => rw [hb'] at q2; exact nxt s2 q2
        | ct s2 => rw [hb'] at q2; exact nxt s2 q2
        | bk s2 => rw [hb'] at q2; exact q2
        | rt d => rw [hb'] at q2; exact q2
        | ex c fs s => rw [hb'] at q2; exact q2
        | bad => rw [hb'] at q2; exact q2
/-! ### what is walked -/
theorem vi_list (h : VE X cl En W O e f) : VI X cl En W O tg e (fun s => (f s).bind fun d => match d with | .lst ds => .ok ds | _ => .bad) :=
  PI.weak (pi_list h) fun σ H R ⟨s, F, S, p⟩ => ⟨s, F, S, p.bind fun d _ p1 v F1 H1 e1 r1 => by
    cases d <;> first | exact p1.elim | skip
    cases r1 with
    | @lst a vs ds hq0 ra =>
      have hq : SqL X.K F1 a vs := .inl (.inl hq0)
      refine ⟨a, rfl, ⟨vs, Same.sql e1.fh hq⟩, p1 _ F1 H1 e1 ⟨fun F2 H2 s1 s2 => ⟨vs, Same.sql (s1.trans s2) hq, by rw [ra.length]; exact Nat.le_refl _⟩, fun i d F2 H2 s1 s2 hd => ?_⟩⟩
      obtain ⟨v, hv, rv⟩ := ra.get hd
      have hq2 := Same.sql (s1.trans s2) hq
      refine ⟨⟨vs, v, hq2, hv⟩, fun x H3 y => ?_⟩
      obtain ⟨rfl, y⟩ := y
      have := y vs hq2
      rw [hv] at this
      cases this
      exact ⟨F2, Ent.refl s2, rv.mono s1⟩⟩
theorem vi_tup (h : VE X cl En W O e f) : VI X cl En W O tg e (fun s => (f s).bind fun d => match d with | .tup ds => .ok ds | _ => .bad) :=
  PI.weak (pi_tup h) fun σ H R ⟨s, F, S, p⟩ => ⟨s, F, S, p.bind fun d _ p1 v F1 H1 e1 r1 => by
    cases d <;> first | exact p1.elim | skip
    cases r1 with
    | @tup a vs ds hq ra =>
      refine ⟨a, rfl, ⟨vs, Same.sqt e1.fh hq⟩, p1 _ F1 H1 e1 ⟨fun F2 H2 s1 s2 => ⟨vs, Same.sqt (s1.trans s2) hq, by rw [ra.length]; exact Nat.le_refl _⟩, fun i d F2 H2 s1 s2 hd => ?_⟩⟩
      obtain ⟨v, hv, rv⟩ := ra.get hd
      have hq2 := Same.sqt (s1.trans s2) hq
      refine ⟨⟨vs, v, hq2, hv⟩, fun x H3 y => ?_⟩
      obtain ⟨rfl, y⟩ := y
      have := y vs hq2
      rw [hv] at this
      cases this
      exact ⟨F2, Ent.refl s2, rv.mono s1⟩⟩
/-- whole numbers in a row -/
def nums (lo : Int) (n : Nat) : List D := (List.range n).map fun (i : Nat) => .int (lo + (i : Int))
theorem nums_get {lo : Int} {n i : Nat} {d : D} (h : (nums lo n)[i]? = some d) : i < n ∧ d = .int (lo + (i : Int)) := by
  unfold nums at h
  rw [List.getElem?_map] at h
  by_cases hi : i < n
  · rw [List.getElem?_range hi] at h
    exact ⟨hi, by simpa using h.symm⟩
  · rw [List.getElem?_eq_none (by simpa using hi)] at h
    cases h
theorem nums_len {lo : Int} {n : Nat} : (nums lo n).length = n := by simp [nums]
theorem wk_rng {lo : Int} {n : Nat} {F1 : Hp} : Wk X cl (Itr lo n) F1 (nums lo n) :=
  ⟨fun F2 H2 s1 s2 => by rw [nums_len]; exact Nat.le_refl n, fun i d F2 H2 s1 s2 hd => by
    obtain ⟨h1, h2⟩ := nums_get hd
    refine ⟨h1, fun x H3 y => ?_⟩
    obtain ⟨rfl, rfl⟩ := y
    exact ⟨F2, Ent.refl s2, by rw [h2]; exact .int _⟩⟩
def rng1D (ds : List D) : R (List D) := match ds with
  | [.int j] => if -(2 ^ 62) ≤ j ∧ j < 2 ^ 62 then .ok (nums 0 j.toNat) else .bad
  | _ => .bad
def rng2D (ds : List D) : R (List D) := match ds with
  | [.int i, .int j] => if -(2 ^ 62) ≤ i ∧ i < 2 ^ 62 ∧ -(2 ^ 62) ≤ j ∧ j < 2 ^ 62 then .ok (nums i (j - i).toNat) else .bad
  | _ => .bad
theorem vi_range1 {p : Pos} {a : Expr} {fa : Sl → R (List D)} (hm : X.mg "range" = none) (ha : VA X cl En W O [a] fa) (hg : Gl X "range" := by rfl)
    (he : starEach [a] X.env = [(false, eval a X.env)] := by rfl) : VI X cl En W O tg (.Call (.Name "range" p) [a] [] pos) (fun s => (fa s).bind rng1D) :=
  PI.weak (pi_range1 hg hm ha he) fun σ H R ⟨s, F, S, p⟩ => ⟨s, F, S, p.bind fun ds hds p1 vs F1 H1 e1 r1 => by
    cases r1 with
    | nil => exact p1.elim
    | cons r1 r2 =>
      cases r2 with
      | cons _ _ =>
        cases r1 <;> exact p1.elim
      | nil =>
        cases r1 <;> first | exact p1.elim | skip
        rename_i j
        have p1 : Pst X.K cl W σ F H (fun ds => ∀ J F' H', Ent F H F' H' → Wk X cl J F' ds → R J H') (if -(2 ^ 62) ≤ j ∧ j < 2 ^ 62 then .ok (nums 0 j.toNat) else .bad) := p1
        split at p1
        · rename_i h
          exact ⟨j, rfl, h.1, h.2, p1 _ F1 H1 e1 wk_rng⟩
        · exact p1.elim⟩
theorem vi_range2 {p : Pos} {a b : Expr} {fa : Sl → R (List D)} (hm : X.mg "range" = none) (ha : VA X cl En W O [a, b] fa) (hg : Gl X "range" := by rfl)
    (he : starEach [a, b] X.env = [(false, eval a X.env), (false, eval b X.env)] := by rfl) (he2 : starEach [b] X.env = [(false, eval b X.env)] := by rfl) : VI X cl En W O tg (.Call (.Name "range" p) [a, b] [] pos) (fun s => (fa s).bind rng2D) :=
  PI.weak (pi_range2 hg hm ha he he2) fun σ H R ⟨s, F, S, p⟩ => ⟨s, F, S, p.bind fun ds hds p1 vs F1 H1 e1 r1 => by
    cases r1 with
    | nil => exact p1.elim
    | cons r1 r2 =>
      cases r2 with
      | nil => cases r1 <;> exact p1.elim
      | cons r2 r3 =>
        cases r3 with
        | cons _ _ => cases r1 <;> first | exact p1.elim | (cases r2 <;> exact p1.elim)
        | nil =>
          cases r1 <;> first | exact p1.elim | skip
          cases r2 <;> first | exact p1.elim | skip
          rename_i i j
          have p1 : Pst X.K cl W σ F H (fun ds => ∀ J F' H', Ent F H F' H' → Wk X cl J F' ds → R J H') (if -(2 ^ 62) ≤ i ∧ i < 2 ^ 62 ∧ -(2 ^ 62) ≤ j ∧ j < 2 ^ 62 then .ok (nums i (j - i).toNat) else .bad) := p1
          split at p1
          · rename_i h
            exact ⟨i, j, rfl, h, p1 _ F1 H1 e1 wk_rng⟩
          · exact p1.elim⟩
def enumL : Int → List D → List D
  | _, [] => []
  | i, d :: r => .tup [.int i, d] :: enumL (i + 1) r
theorem enumL_len : ∀ (k : Int) (ds : List D), (enumL k ds).length = ds.length
  | _, [] => rfl
  | k, _ :: r => by simp [enumL, enumL_len (k + 1) r]
theorem enumL_get : ∀ {k : Int} {ds : List D} {i : Nat} {e : D}, (enumL k ds)[i]? = some e → ∃ d, ds[i]? = some d ∧ e = .tup [.int (k + (i : Int)), d]
  | _, [], i, e, h => by simp [enumL] at h
  | k, d :: r, 0, e, h => ⟨d, rfl, by simp [enumL] at h; rw [← h]; simp⟩
  | k, d :: r, i + 1, e, h => by
    obtain ⟨d', h1, h2⟩ := enumL_get (k := k + 1) (ds := r) (i := i) (e := e) (by simpa [enumL] using h)
    refine ⟨d', by simpa using h1, ?_⟩
    rw [h2]
    congr 3
    have : k + 1 + (i : Int) = k + ((i + 1 : Nat) : Int) := by omega
    rw [this]
theorem vi_enum {p tpos : Pos} {a : Expr} {elts : List Expr} {kk : Nat} {fa : Sl → R (List D)} (hm : X.mg "enumerate" = none) (ha : VA X cl En W O [a] fa) (hg : Gl X "enumerate" := by rfl)
    (he : starEach [a] X.env = [(false, eval a X.env)] := by rfl) : VI X cl En W O (.Tuple elts kk tpos) (.Call (.Name "enumerate" p) [a] [] pos) (fun s => (fa s).bind fun ds => match ds with | [.lst l] => .ok (enumL 0 l) | _ => .bad) :=
  PI.weak (pi_enum hg hm ha he) fun σ H R ⟨s, F, S, p⟩ => ⟨s, F, S, p.bind fun ds hds p1 vs F1 H1 e1 r1 => by
    cases r1 with
    | nil => exact p1.elim
    | cons r1 r2 =>
      cases r2 with
      | cons _ _ =>
        cases r1 <;> exact p1.elim
      | nil =>
        cases r1 <;> first | exact p1.elim | skip
        rename_i a vs l hq0 ra
        have hq : SqL X.K F1 a vs := .inl (.inl hq0)
        refine ⟨a, vs, rfl, Same.sql e1.fh hq, p1 _ F1 H1 e1 ⟨fun F2 H2 s1 s2 => ⟨vs, Same.sql (s1.trans s2) hq, by rw [enumL_len, ra.length]; exact Nat.le_refl _⟩, fun i e F2 H2 s1 s2 hd => ?_⟩⟩
        obtain ⟨d, h1, rfl⟩ := enumL_get hd
        obtain ⟨v, hv, rv⟩ := ra.get h1
        have hq2 := Same.sql (s1.trans s2) hq
        refine ⟨⟨vs, v, hq2, hv⟩, fun x H3 y => ?_⟩
        obtain ⟨T, x', rfl, hn, rfl, y⟩ := y
        have := y vs hq2
        rw [hv] at this
        cases this
        have en := Ent.new s2 (o := .tup [V.int ↑i, v]) hn
        refine ⟨_, en, .tup (.inl (.inl upd_same)) (.cons ?_ (.one ((rv.mono s1).mono en.f)))⟩
        have : (0 : Int) + (i : Int) = (i : Int) := Int.zero_add _
        rw [this]
        exact .int _⟩
end
end VS
namespace VS
open PySem PySem.Spec PyProof.Rows L2
/-! ### names of fields -/
theorem map_toNat_inj : ∀ {a b : List Char}, a.map Char.toNat = b.map Char.toNat → a = b
  | [], [], _ => rfl
  | [], _ :: _, h => by simp at h
  | _ :: _, [], h => by simp at h
  | x :: a, y :: b, h => by
    simp only [List.map_cons, List.cons.injEq] at h
    have e : x = y := by
      have := h.1
      apply Char.ext
      apply UInt32.toNat_inj.mp
      exact this
    rw [e, map_toNat_inj h.2]
theorem ofString_inj {a b : String} (h : Str.ofString a = Str.ofString b) : a = b := by
  rw [Str.ofString_eq_toList, Str.ofString_eq_toList] at h
  injection h with h
  have h2 : (a.toList.map Char.toNat) = (b.toList.map Char.toNat) := by simpa using congrArg Array.toList h
  exact String.toList_inj.mp (map_toNat_inj h2)
section
variable {K : PySem.W.Frag} {cl : Ctx} {F : Hp}
theorem RpF.lookup : ∀ {fs : List (Str × V)} {gs : List (String × D)} {f : String} {d : D}, RpF K cl F fs gs → gs.lookup f = some d → ∃ v, fs.lookup (Str.ofString f) = some v ∧ Rp K cl F v d
  | _, _, f, d, .nil, h => by cases h
  | _, _, f, d, .cons (f := f') (v := v') (d := d') (vs := vs) (ds := ds) r q, h => by
    by_cases e : f = f'
    · subst e
      have h : (if (f == f) = true then some d' else ds.lookup f) = some d := by simpa [List.lookup] using h
      rw [if_pos (by simp)] at h
      cases h
      refine ⟨v', ?_, r⟩
      simp [List.lookup]
    · have h2 : ds.lookup f = some d := by
        rw [List.lookup, (beq_eq_false_iff_ne (a := f) (b := f')).mpr e] at h
        exact h
      obtain ⟨v, h3, h4⟩ := RpF.lookup q h2
      refine ⟨v, ?_, h4⟩
      rw [List.lookup, (beq_eq_false_iff_ne (a := Str.ofString f) (b := Str.ofString f')).mpr (fun z => e (ofString_inj z))]
      exact h3
theorem RpF.lookup_none : ∀ {fs : List (Str × V)} {gs : List (String × D)} {f : String}, RpF K cl F fs gs → gs.lookup f = none → fs.lookup (Str.ofString f) = none
  | _, _, f, .nil, h => rfl
  | _, _, f, .cons (f := f') (v := v') (d := d') (vs := vs) (ds := ds) r q, h => by
    by_cases e : f = f'
    · subst e
      simp [List.lookup] at h
    · have h2 : ds.lookup f = none := by
        rw [List.lookup, (beq_eq_false_iff_ne (a := f) (b := f')).mpr e] at h
        exact h
      rw [List.lookup, (beq_eq_false_iff_ne (a := Str.ofString f) (b := Str.ofString f')).mpr (fun z => e (ofString_inj z))]
      exact RpF.lookup_none q h2
end
/-! ### defs -/
section
variable (K : PySem.W.Frag) (cl : Ctx)
/-- a def that is Fd on data; its value for ever -/
def spV (n : Nat) (Fd : List D → R D) : Sp := fun vs H Q E => ∃ F0 ds, Same F0 H ∧ RpA K cl F0 vs ds ∧ ds.length = n ∧ match Fd ds with
  | .ok d => ∀ v F' H', Ent F0 H F' H' → Rp K cl F' v d → Q v H'
  | .exc c fs => ∀ C e F' H', Ent F0 H F' H' → ExRp K cl F' H' c fs C e → E C e H'
  | .bad => False
/-- .. a new thing -/
def spO (n : Nat) (Fd : List D → R D) : Sp := fun vs H Q E => ∃ F0 ds, Same F0 H ∧ RpA K cl F0 vs ds ∧ ds.length = n ∧ match Fd ds with
  | .ok d => ∀ a o F' H', Ent F0 H F' H' → H a = none → H' a = some o → F' a = none → Cell K cl F' a o d → Q (.ref a) H'
  | .exc c fs => ∀ C e F' H', Ent F0 H F' H' → ExRp K cl F' H' c fs C e → E C e H'
  | .bad => False
end
theorem spO_V {K : PySem.W.Frag} {cl : Ctx} {n : Nat} {Fd : List D → R D} : ∀ vs H Q E, spV K cl n Fd vs H Q E → spO K cl n Fd vs H Q E := fun vs H Q E ⟨F0, ds, h1, h2, h3, h4⟩ => ⟨F0, ds, h1, h2, h3, by
  cases q : Fd ds with
  | ok d =>
    rw [q] at h4
    intro a o F' H' e g1 g2 g3 g4
    have sm : Same F' (upd F' a o) := fun b u e => by rw [upd_ne (ne_of_none e g3)]; exact e
    exact h4 _ (upd F' a o) H' (e.freeze g1 g3 g2) ((g4.mono sm).rp upd_same)
  | exc c fs => rw [q] at h4; exact h4
  | bad => rw [q] at h4; exact h4⟩
section
variable {P : Program} {w : World} {K : PySem.W.Frag} {mg : Str → Option Value} {base : Heap} {cl : Ctx}
theorem startD_len (n : Nat) (ds : List D) : (startD n ds).length = max ds.length n := by
  unfold startD
  rw [List.length_append, List.length_map, List.length_replicate]
  omega
theorem sl_start {N : List Str} {F0 H : Hp} {vs : List V} {ds : List D} (sm : Same F0 H) (r : RpA K cl F0 vs ds) : SlOk K cl ⟨F0, H, none⟩ [] (startD N.length ds) (L2.start N vs) F0 H := by
  refine ⟨?_, fun i d _ hs => ?_, fun i d h => absurd h (by simp), fun i j d e a h => absurd h (by simp), Ent.refl sm, fun x hx => nomatch hx⟩
  · unfold startD L2.start
    simp [r.length]
  · unfold startD at hs
    unfold L2.start
    have hi : i < ds.length := by
      by_cases hi : i < ds.length
      · exact hi
      · rw [List.getElem?_append_right (by simpa using hi), List.getElem?_replicate] at hs
        split at hs <;> cases hs
    rw [List.getElem?_append_left (by simpa using hi), List.getElem?_map] at hs
    cases q : ds[i]? with
    | none => rw [q] at hs; cases hs
    | some d' =>
      rw [q] at hs
      cases hs
      obtain ⟨v, h1, h2⟩ := r.get q
      have hv : i < vs.length := by rw [r.length]; exact hi
      exact ⟨v, by rw [List.getElem?_append_left (by simpa using hv), List.getElem?_map, h1]; rfl, h2⟩
/-- THE RULE for a def -/
theorem fn_v {x qual : Str} {st : Stmt} {f : Addr} {fd : FuncData} {N ps : List Str} {k : Nat} {b : S1} {O' : List Nat} (F : Fun K x qual st f fd) (S : FnScope N ps (defScope st))
    (hbody : ∀ (cdv : Value) (A : Around) (outer : List Env) (s : Shared) (H : Hp) (E : XK) (F0 : Hp), Room k (A.deeper (envOfC qual (defScope st) s.heap.objs.size f cdv)) →
      VSs (cxOf (L2.CX P w) P w K mg base N qual (defScope st) f cdv A outer s H E) cl ⟨F0, H, none⟩ (fun cls d _ H => E cls d H) false [] [] O' (defBody st) b) : FnOk P w K mg base (L2.CX P w) (k + 1) f fd ps (spV K cl ps.length (dDef N.length b)) := by
  refine F.okX S (fun vs H Q E ⟨F0, ds, h1, h2, h3, h4⟩ => by rw [h2.length, h3]) (fun cdv A outer s H vs Q E hr ⟨F0, ds, h1, h2, h3, h4⟩ => ?_)
  refine ⟨_, hbody cdv A outer s H E F0 hr, startD N.length ds, F0, sl_start h1 h2, ?_⟩
  unfold dDef at h4
  cases q : b (startD N.length ds) with
  | nx s' => rw [q] at h4; exact fun σ' F' H' e S' => h4 .non F' H' S'.ent .non
  | rt d => rw [q] at h4; exact h4
  | bk s => rw [q] at h4; exact h4.elim
  | ct s => rw [q] at h4; exact h4.elim
  | ex c fs s => rw [q] at h4; exact fun C e σ' F' H' sm S' r => h4 C e F' H' S'.ent r
  | bad => rw [q] at h4; exact h4.elim
theorem fn_o {x qual : Str} {st : Stmt} {f : Addr} {fd : FuncData} {N ps : List Str} {k : Nat} {b : S1} {O' : List Nat} (F : Fun K x qual st f fd) (S : FnScope N ps (defScope st)) (hn : ∀ s s', b s ≠ .nx s')
    (hbody : ∀ (cdv : Value) (A : Around) (outer : List Env) (s : Shared) (H : Hp) (E : XK) (F0 : Hp), Room k (A.deeper (envOfC qual (defScope st) s.heap.objs.size f cdv)) →
      VSs (cxOf (L2.CX P w) P w K mg base N qual (defScope st) f cdv A outer s H E) cl ⟨F0, H, none⟩ (fun cls d _ H => E cls d H) true [] [] O' (defBody st) b) : FnOk P w K mg base (L2.CX P w) (k + 1) f fd ps (spO K cl ps.length (dDef N.length b)) := by
  refine F.okX S (fun vs H Q E ⟨F0, ds, h1, h2, h3, h4⟩ => by rw [h2.length, h3]) (fun cdv A outer s H vs Q E hr ⟨F0, ds, h1, h2, h3, h4⟩ => ?_)
  refine ⟨_, hbody cdv A outer s H E F0 hr, startD N.length ds, F0, sl_start h1 h2, ?_⟩
  unfold dDef at h4
  cases q : b (startD N.length ds) with
  | nx s' => exact absurd q (hn _ _)
  | rt d => rw [q] at h4; exact fun a o F' H' e g1 g2 g3 g4 => h4 a o F' H' e g1 g2 g3 g4
  | bk s => rw [q] at h4; exact h4.elim
  | ct s => rw [q] at h4; exact h4.elim
  | ex c fs s => rw [q] at h4; exact fun C e σ' F' H' sm S' r => h4 C e F' H' S'.ent r
  | bad => rw [q] at h4; exact h4.elim
end
/-! ### calls -/
def eCall (Fd : List D → R D) (dd : List D) (fa : Sl → R (List D)) : Sl → R D := fun s => (fa s).bind fun ds => Fd (ds ++ dd)
def eMeth (c m : String) (Fd : List D → R D) (dd : List D) (fo : Sl → R D) (fa : Sl → R (List D)) : Sl → R D := fun s => (fo s).bind fun o => match o with
  | .ins c' gs => if c' = c ∧ gs.lookup m = none then (fa s).bind fun ds => Fd (o :: (ds ++ dd)) else .bad
  | _ => .bad
def eFld (c f : String) : D → R D := fun o => match o with
  | .ins c' gs => if c' = c then (match gs.lookup f with | some d => .ok d | none => .bad) else .bad
  | _ => .bad
section
variable {X : Cx} {cl : Ctx} {En : Ety} {W : WX} {O : List Nat} {e a b o : Expr} {es : List Expr} {f g h : Sl → R D} {fa : Sl → R (List D)} {p pos apos : Pos}
  {k : Nat} {fx : Addr} {fd : FuncData} {ps : List Str} {Fd : List D → R D} {n : Nat} {ds : List Value} {dvs : List V} {dd : List D} {x : Str}
theorem tCall_V {σ : L2.St} {H : Hp} {Q : VK} (hdd : ∀ F, RpA X.K cl F dvs dd) (hn : ∀ s ds, fa s = .ok ds → (ds ++ dd).length = n) (q : tV X cl En W O (eCall Fd dd fa) σ H Q) :
    tA X cl En W O fa σ H fun vs H1 => spV X.K cl n Fd (vs ++ dvs) H1 Q (WE W σ) := by
  obtain ⟨s, F, S, p⟩ := q
  refine ⟨s, F, S, p.bind fun ds hds p1 vs F1 H1 e1 r1 => ⟨F1, ds ++ dd, e1.fh, r1.append (hdd F1), hn s ds hds, ?_⟩⟩
  cases q : Fd (ds ++ dd) with
  | ok d => rw [q] at p1; exact fun v F' H' e' r => p1 v F' H' (e1.trans e') r
  | exc c fs => rw [q] at p1; exact fun C x F' H' e' r => p1 C x F' H' (e1.trans e') r
  | bad => rw [q] at p1; exact p1.elim
theorem tCall_O {σ : L2.St} {H : Hp} {Q : VK} (hdd : ∀ F, RpA X.K cl F dvs dd) (hn : ∀ s ds, fa s = .ok ds → (ds ++ dd).length = n) (q : tO X cl En W O (eCall Fd dd fa) σ H Q) :
    tA X cl En W O fa σ H fun vs H1 => spO X.K cl n Fd (vs ++ dvs) H1 Q (WE W σ) := by
  obtain ⟨s, F, S, p⟩ := q
  refine ⟨s, F, S, p.bind fun ds hds p1 vs F1 H1 e1 r1 => ⟨F1, ds ++ dd, e1.fh, r1.append (hdd F1), hn s ds hds, ?_⟩⟩
  cases q : Fd (ds ++ dd) with
  | ok d => rw [q] at p1; exact fun a o F' H' e' g1 g2 g3 g4 => p1 a o F' H' (e1.trans e') (e1.h.free g1) g2 g3 g4
  | exc c fs => rw [q] at p1; exact fun C x F' H' e' r => p1 C x F' H' (e1.trans e') r
  | bad => rw [q] at p1; exact p1.elim
def ALen (fa : Sl → R (List D)) (n : Nat) : Prop := ∀ s ds, fa s = .ok ds → ds.length = n
theorem alen_nil : ALen aN 0 := fun s ds h => by cases h; rfl
theorem alen_cons {f : Sl → R D} {fa : Sl → R (List D)} {n : Nat} (h : ALen fa n) : ALen (aC f fa) (n + 1) := fun s ds q => by
  unfold aC at q
  cases h1 : f s with
  | ok d =>
    rw [h1] at q
    cases h2 : fa s with
    | ok r => rw [h2] at q; cases q; simp [h s r h2]
    | exc c fs => rw [h2] at q; cases q
    | bad => rw [h2] at q; cases q
  | exc c fs => rw [h1] at q; cases q
  | bad => rw [h1] at q; cases q
theorem ve_call (tk : Takes X W) (G : FnOk X.prog X.w X.K X.mg X.base (L2.CX X.prog X.w) k fx fd ps (spV X.K cl n Fd)) (hr : Room k X.A) (hm : X.mg x = some (.ref fx)) (hk : PySem.W.keepIn X.K (.ref fx) = true) (hb : Binds X.K fd ps ds) (hd : Vals dvs ds) (hdd : ∀ F, RpA X.K cl F dvs dd)
    (ha : VA X cl En W O (e :: es) fa) (hl : ∀ s ds, fa s = .ok ds → (ds ++ dd).length = n) (hg : Gl X x := by rfl) (hdb : (x == ("__debug__" : Str)) = false := by decide) (he : starEach (e :: es) X.env = (false, eval e X.env) :: starEach es X.env := by rfl) (hpl : (backTo pos (starEach es X.env)).any (·.1) = false := by rfl) :
    VE X cl En W O (.Call (.Name x p) (e :: es) [] pos) (eCall Fd dd fa) :=
  PE.weak (pe_callSD (dvs := dvs) G hr hg hm hk hb hd (passAt tk) ha hdb he hpl) fun σ H Q q => tCall_V hdd hl q
theorem vo_call (tk : Takes X W) (G : FnOk X.prog X.w X.K X.mg X.base (L2.CX X.prog X.w) k fx fd ps (spO X.K cl n Fd)) (hr : Room k X.A) (hm : X.mg x = some (.ref fx)) (hk : PySem.W.keepIn X.K (.ref fx) = true) (hb : Binds X.K fd ps ds) (hd : Vals dvs ds) (hdd : ∀ F, RpA X.K cl F dvs dd)
    (ha : VA X cl En W O (e :: es) fa) (hl : ∀ s ds, fa s = .ok ds → (ds ++ dd).length = n) (hg : Gl X x := by rfl) (hdb : (x == ("__debug__" : Str)) = false := by decide) (he : starEach (e :: es) X.env = (false, eval e X.env) :: starEach es X.env := by rfl) (hpl : (backTo pos (starEach es X.env)).any (·.1) = false := by rfl) :
    VO X cl En W O (.Call (.Name x p) (e :: es) [] pos) (eCall Fd dd fa) :=
  PE.weak (pe_callSD (dvs := dvs) G hr hg hm hk hb hd (passAt tk) ha hdb he hpl) fun σ H Q q => tCall_O hdd hl q
/-- o.f -/
theorem ve_fld {c fn : String} {C : Addr} (hcl : cl c = some C) (hC : Cls X.K C) (hno : NoAttr X.K C (Str.ofString fn)) (h : VB X cl En W O e f) (hb : attributeBase e (Str.ofString fn) X.env (eval e X.env) = eval e X.env := by rfl) :
    VE X cl En W O (.Attribute e (Str.ofString fn) pos) (e1 (eFld c fn) f) :=
  PE.weak (pe_fld h hb) fun σ H Q ⟨s, F, S, p⟩ => ⟨s, F, S, p.bind fun d hdd0 p1 v F1 H1 e1 r1 => by
    cases d <;> first | exact p1.elim | skip
    rename_i c' gs
    have p1 : Pst X.K cl W σ F H (fun d => ∀ v F' H', Ent F H F' H' → Rp X.K cl F' v d → Q v H') (if c' = c then (match gs.lookup fn with | some d => .ok d | none => .bad) else .bad) := p1
    by_cases hc : c' = c
    · subst hc
      rw [if_pos rfl] at p1
      cases q : gs.lookup fn with
      | none => rw [q] at p1; exact p1.elim
      | some d =>
        rw [q] at p1
        obtain ⟨a, C', dx, fs, rfl, h1, h2, h3⟩ := r1.ins e1.fh
        rw [hcl] at h1
        cases h1
        obtain ⟨v, h4, h5⟩ := h3.lookup q
        exact ⟨a, C, dx, fs, v, rfl, h2, hC, hno, h4, p1 v F1 H1 e1 h5⟩
    · rw [if_neg hc] at p1; exact p1.elim⟩
/-- o.m(e, ..) -/
theorem ve_meth {c mn : String} {C : Addr} {E : XK} {pl : Sem Bool} (hW : W = fun cls d _ H => E cls d H) (tk : Takes X W) (hcl : cl c = some C) (hC : Cls X.K C) (hM : Meth X.K C (Str.ofString mn) fx) (G : FnOk X.prog X.w X.K X.mg X.base (L2.CX X.prog X.w) k fx fd ps (spV X.K cl n Fd)) (hr : Room k X.A)
    (hb : Binds X.K fd ps ds) (hd : Vals dvs ds) (hdd : ∀ F, RpA X.K cl F dvs dd) (ho : VE X cl En W O o f) (ha : VA X cl En W O (e :: es) fa) (hl : ∀ s ds, fa s = .ok ds → (ds ++ dd).length + 1 = n)
    (he : starEach (e :: es) X.env = (false, eval e X.env) :: starEach es X.env := by rfl) (hpl : (backTo pos (starEach es X.env)).any (·.1) = false := by rfl)
    (ht : eval (.Call (.Attribute o (Str.ofString mn) apos) (e :: es) [] pos) X.env = (do
      let ov ← eval o X.env
      standAt apos.atName
      let (f, first) ← holding [ov] (getMethod ov (Str.ofString mn) pl)
      callWith pos f first (backTo pos (starEach (e :: es) X.env)) (backToKw pos (keywordEach [] X.env))) := by rfl) :
    VE X cl En W O (.Call (.Attribute o (Str.ofString mn) apos) (e :: es) [] pos) (eMeth c mn Fd dd f fa) :=
  PE.weak (pe_meth (E := E) (pl := pl) (dvs := dvs) ho hC hM G hr hb hd (passes_call tk (fun cls d σ H h => by rw [hW]; exact h)) ha he hpl ht) fun σ H Q ⟨s, F, S, p⟩ => ⟨s, F, S, p.bind fun d hdd0 p1 v F1 H1 e1 r1 => by
    cases d <;> first | exact p1.elim | skip
    rename_i c' gs
    have p3 : Pst X.K cl W σ F H (fun d => ∀ v F' H', Ent F H F' H' → Rp X.K cl F' v d → Q v H') (if c' = c ∧ gs.lookup mn = none then (fa s).bind fun ds => Fd (.ins c' gs :: (ds ++ dd)) else .bad) := p1
    by_cases hc : c' = c ∧ gs.lookup mn = none
    · rw [if_pos hc] at p3; clear p1
      obtain ⟨rfl, hnone⟩ := hc
      cases r1 with
      | @ins a C' dx _ fs _ h1 h2 h3 =>
        rw [hcl] at h1
        cases h1
        refine ⟨a, dx, fs, rfl, e1.fh _ _ h2, h3.lookup_none hnone, s, F1, S.grow e1, (p3.grow e1).bind fun ds hds p2 vs F2 H2 e2 r2 => ⟨F2, .ins c' gs :: (ds ++ dd), e2.fh, .cons (.ins hcl (e2.f _ _ h2) (h3.mono e2.f)) (r2.append (hdd F2)), by simpa using hl s ds hds, ?_⟩⟩
        cases q : Fd (.ins c' gs :: (ds ++ dd)) with
        | ok d => rw [q] at p2; exact fun v F' H' e' r => p2 v F' H' ((e1.trans e2).trans e') r
        | exc c fs =>
          rw [q] at p2
          intro C x F' H' e' r
          have := p2 C x F' H' (e2.trans e') r
          rw [hW] at this
          exact this
        | bad => rw [q] at p2; exact p2.elim
    · rw [if_neg hc] at p3; exact p3.elim⟩
/-- o.m() -/
theorem ve_meth0 {c mn : String} {C : Addr} {E : XK} {pl : Sem Bool} (hW : W = fun cls d _ H => E cls d H) (tk : Takes X W) (hcl : cl c = some C) (hC : Cls X.K C) (hM : Meth X.K C (Str.ofString mn) fx) (G : FnOk X.prog X.w X.K X.mg X.base (L2.CX X.prog X.w) k fx fd ps (spV X.K cl n Fd)) (hr : Room k X.A)
    (hb : Binds X.K fd ps ds) (hd : Vals dvs ds) (hdd : ∀ F, RpA X.K cl F dvs dd) (ho : VE X cl En W O o f) (hl : dd.length + 1 = n)
    (ht : eval (.Call (.Attribute o (Str.ofString mn) apos) [] [] pos) X.env = (do
      let ov ← eval o X.env
      standAt apos.atName
      let (f, first) ← holding [ov] (getMethod ov (Str.ofString mn) pl)
      callWith pos f first (backTo pos (starEach [] X.env)) (backToKw pos (keywordEach [] X.env))) := by rfl) :
    VE X cl En W O (.Call (.Attribute o (Str.ofString mn) apos) [] [] pos) (eMeth c mn Fd dd f aN) :=
  PE.weak (pe_meth0 (E := E) (pl := pl) (dvs := dvs) ho hC hM G hr hb hd (passes_call tk (fun cls d σ H h => by rw [hW]; exact h)) ht) fun σ H Q ⟨s, F, S, p⟩ => ⟨s, F, S, p.bind fun d hdd0 p1 v F1 H1 e1 r1 => by
    cases d <;> first | exact p1.elim | skip
    rename_i c' gs
    have p3 : Pst X.K cl W σ F H (fun d => ∀ v F' H', Ent F H F' H' → Rp X.K cl F' v d → Q v H') (if c' = c ∧ gs.lookup mn = none then Fd (.ins c' gs :: dd) else .bad) := p1
    by_cases hc : c' = c ∧ gs.lookup mn = none
    · rw [if_pos hc] at p3; clear p1
      obtain ⟨rfl, hnone⟩ := hc
      cases r1 with
      | @ins a C' dx _ fs _ h1 h2 h3 =>
        rw [hcl] at h1
        cases h1
        refine ⟨a, dx, fs, rfl, e1.fh _ _ h2, h3.lookup_none hnone, F1, .ins c' gs :: dd, e1.fh, .cons (.ins hcl h2 h3) (hdd F1), by simpa using hl, ?_⟩
        cases q : Fd (.ins c' gs :: dd) with
        | ok d => rw [q] at p3; exact fun v F' H' e' r => p3 v F' H' (e1.trans e') r
        | exc c fs =>
          rw [q] at p3
          intro C x F' H' e' r
          have := p3 C x F' H' (e1.trans e') r
          rw [hW] at this
          exact this
        | bad => rw [q] at p3; exact p3.elim
    · rw [if_neg hc] at p3; exact p3.elim⟩
end
end VS
namespace VS
open PySem PySem.Spec PyProof.Rows L2
/-! ### data as PyData -/
mutual
def toPy : D → Option PyData
  | .non => some .none
  | .bl b => some (.bool b)
  | .int i => some (.int i)
  | .str x => some (.str x)
  | .tup l => (toPyA l).map .tuple
  | .lst l => (toPyA l).map .list
  | .scr _ => none
  | .dct _ => none
  | .ins _ _ => none
def toPyA : List D → Option (List PyData)
  | [] => some []
  | d :: ds => match toPy d, toPyA ds with | some p, some ps => some (p :: ps) | _, _ => none
end
section
variable {K : PySem.W.Frag} {cl : Ctx} {F H : Hp}
mutual
theorem Rp.dp (e : Same F H) : ∀ {v : V} {d : D} {p : PyData}, Rp K cl F v d → toPy d = some p → Dp K H v p
  | _, _, _, .non, h => by simp only [toPy] at h; cases h; exact .non
  | _, _, _, .bl b, h => by simp only [toPy] at h; cases h; exact .bl b
  | _, _, _, .int i, h => by simp only [toPy] at h; cases h; exact .int i
  | _, _, _, .str x, h => by simp only [toPy] at h; cases h; exact .str x
  | _, _, _, .lst (ds := ds) hq r, h => by
    simp only [toPy] at h
    cases q : toPyA ds with
    | none => rw [q] at h; cases h
    | some ps => rw [q] at h; cases h; exact .lst (.inl (.inl (e _ _ hq))) (RpA.dp e r q)
  | _, _, _, .scr _ _, h => by simp only [toPy] at h; cases h
  | _, _, _, .tup (ds := ds) hq r, h => by
    simp only [toPy] at h
    cases q : toPyA ds with
    | none => rw [q] at h; cases h
    | some ps => rw [q] at h; cases h; exact .tup (Same.sqt e hq) (RpA.dp e r q)
  | _, _, _, .ins _ _ _, h => by simp only [toPy] at h; cases h
  | _, _, _, .dct _ _, h => by simp only [toPy] at h; cases h
theorem RpA.dp (e : Same F H) : ∀ {vs : List V} {ds : List D} {ps : List PyData}, RpA K cl F vs ds → toPyA ds = some ps → DpAll K H vs ps
  | _, _, _, .nil, h => by simp only [toPyA] at h; cases h; exact .nil
  | _, _, _, .cons (d := d) (ds := ds) r1 r2, h => by
    simp only [toPyA] at h
    cases q1 : toPy d with
    | none => rw [q1] at h; cases h
    | some p =>
      cases q2 : toPyA ds with
      | none => rw [q1, q2] at h; cases h
      | some ps => rw [q1, q2] at h; cases h; exact .cons (Rp.dp e r1 q1) (RpA.dp e r2 q2)
end
theorem RpB.dp (e : Same F H) {v : V} {d : D} {p : PyData} (r : RpB K cl F H v d) (h : toPy d = some p) : Dp K H v p := by
  rcases r with r | ⟨a, o, rfl, h2, h3, h4⟩
  · exact r.dp e h
  · cases h4 with
    | @lst vs ds r =>
      simp only [toPy] at h
      cases q : toPyA ds with
      | none => rw [q] at h; cases h
      | some ps => rw [q] at h; cases h; exact .lst (.inl (.inl h2)) (RpA.dp e r q)
    | dct r => simp only [toPy] at h; cases h
    | ins c r => simp only [toPy] at h; cases h
end
/-! ### operations on data -/
def addD : D → D → R D
  | .int i, .int j => .ok (.int (i + j))
  | .str i, .str j => if i.length + j.length ≤ sizeLine then .ok (.str (i ++ j)) else .bad
  | .tup a, .tup b => if a ≠ [] ∧ a.length + b.length ≤ sizeLine then .ok (.tup (a ++ b)) else .bad
  | _, _ => .bad
def subD : D → D → R D | .int i, .int j => .ok (.int (i - j)) | _, _ => .bad
def mulD : D → D → R D | .int i, .int j => if (-(2 ^ 64) < i ∧ i < 2 ^ 64) ∨ (-(2 ^ 64) < j ∧ j < 2 ^ 64) then .ok (.int (i * j)) else .bad | _, _ => .bad
def fdivD : D → D → R D | .int i, .int j => if 0 < j ∧ j < 1073741824 then .ok (.int (i / j)) else .bad | _, _ => .bad
def modD : D → D → R D | .int i, .int j => if 0 < j then .ok (.int (i % j)) else .bad | _, _ => .bad
def powD : D → D → R D | .int i, .int j => if 0 ≤ j ∧ j ≤ 1000000 ∧ i.natAbs < 2 ^ 64 then .ok (.int (i ^ j.toNat)) else .bad | _, _ => .bad
def ltD : D → D → R D | .int i, .int j => .ok (.bl (decide (i < j))) | _, _ => .bad
def leD : D → D → R D | .int i, .int j => .ok (.bl (decide (i ≤ j))) | _, _ => .bad
def gtD : D → D → R D | .int i, .int j => .ok (.bl (decide (j < i))) | _, _ => .bad
def geD : D → D → R D | .int i, .int j => .ok (.bl (decide (j ≤ i))) | _, _ => .bad
def eqD : D → D → R D := fun x y => match toPy x, toPy y with
  | some p, some q => if SeqAt.shaped p = true ∧ SeqAt.shaped q = true then .ok (.bl (PyData.eqv p q)) else .bad
  | _, _ => .bad
def neD : D → D → R D := fun x y => match toPy x, toPy y with
  | some p, some q => if SeqAt.shaped p = true ∧ SeqAt.shaped q = true then .ok (.bl (!PyData.eqv p q)) else .bad
  | _, _ => .bad
def isND : D → D → R D | .non, .non => .ok (.bl true) | _, .non => .ok (.bl false) | _, _ => .bad
def notND : D → D → R D | .non, .non => .ok (.bl false) | _, .non => .ok (.bl true) | _, _ => .bad
def ixD : D → D → R D
  | .lst l, .int i => match atI l i with | some d => .ok d | none => .bad
  | .tup l, .int i => match atI l i with | some d => .ok d | none => .bad
  | .scr l, .int i => match atI l i with | some d => .ok d | none => .bad
  | _, _ => .bad
def flatD : D → Option V
  | .non => some .non | .bl b => some (.bl b) | .int i => some (.int i) | .str x => some (.str x) | _ => none
def flatA : List D → Option (List V)
  | [] => some []
  | d :: r => match flatD d, flatA r with | some v, some vs => some (v :: vs) | _, _ => none
def inD (neg : Bool) : D → D → R D := fun x y => match flatD x with
  | none => .bad
  | some v => match y with
    | .lst l => (match flatA l with | some vs => .ok (.bl (if neg = true then !inV v vs else inV v vs)) | none => .bad)
    | .tup l => (match flatA l with | some vs => .ok (.bl (if neg = true then !inV v vs else inV v vs)) | none => .bad)
    | _ => .bad
def negD : D → R D | .int i => .ok (.int (-i)) | _ => .bad
section
variable {K : PySem.W.Frag} {cl : Ctx} {F F' H : Hp}
theorem flat_v {v w : V} {d : D} (r : Rp K cl F v d) (h : flatD d = some w) : w = v ∧ flatV v = true := by
  cases r <;> simp only [flatD] at h <;> first | (cases h; exact ⟨rfl, rfl⟩) | cases h
theorem flat_vs : ∀ {vs ws : List V} {ds : List D}, RpA K cl F vs ds → flatA ds = some ws → ws = vs ∧ vs.all flatV = true
  | _, _, _, .nil, h => by simp only [flatA] at h; cases h; exact ⟨rfl, rfl⟩
  | _, _, _, .cons (d := d) (ds := ds) r1 r2, h => by
    simp only [flatA] at h
    cases q1 : flatD d with
    | none => rw [q1] at h; cases h
    | some w =>
      cases q2 : flatA ds with
      | none => rw [q1, q2] at h; cases h
      | some ws =>
        rw [q1, q2] at h
        cases h
        obtain ⟨e1, e2⟩ := flat_v r1 q1
        obtain ⟨e3, e4⟩ := flat_vs r2 q2
        subst e1 e3
        exact ⟨rfl, by simp [e2, e4]⟩
theorem RpB.flat {v w : V} {d : D} (r : RpB K cl F H v d) (h : flatD d = some w) : w = v ∧ flatV v = true := by
  rcases r with r | ⟨a, o, h1, h2, h3, h4⟩
  · exact flat_v r h
  · cases h4 <;> simp only [flatD] at h <;> cases h
theorem atI_map {vs : List V} {ds : List D} (r : RpA K cl F vs ds) {i : Int} {d : D} (h : atI ds i = some d) : ∃ v, atI vs i = some v ∧ Rp K cl F v d := by
  unfold atI at h ⊢
  rw [r.length]
  cases q : ixN ds.length i with
  | none => rw [q] at h; cases h
  | some j =>
    rw [q] at h
    exact r.get h
end
/-! ### their rules -/
theorem nox_add : NoX2 addD := fun x y c fs h => by
  unfold addD at h
  split at h <;> first | cases h | (split at h <;> cases h)
theorem nox_sub : NoX2 subD := fun x y c fs h => by unfold subD at h; split at h <;> cases h
theorem nox_mul : NoX2 mulD := fun x y c fs h => by unfold mulD at h; split at h <;> first | cases h | (split at h <;> cases h)
theorem nox_fdiv : NoX2 fdivD := fun x y c fs h => by unfold fdivD at h; split at h <;> first | cases h | (split at h <;> cases h)
theorem nox_mod : NoX2 modD := fun x y c fs h => by unfold modD at h; split at h <;> first | cases h | (split at h <;> cases h)
theorem nox_pow : NoX2 powD := fun x y c fs h => by unfold powD at h; split at h <;> first | cases h | (split at h <;> cases h)
theorem nox_lt : NoX2 ltD := fun x y c fs h => by unfold ltD at h; split at h <;> cases h
theorem nox_le : NoX2 leD := fun x y c fs h => by unfold leD at h; split at h <;> cases h
theorem nox_gt : NoX2 gtD := fun x y c fs h => by unfold gtD at h; split at h <;> cases h
theorem nox_ge : NoX2 geD := fun x y c fs h => by unfold geD at h; split at h <;> cases h
theorem nox_eq : NoX2 eqD := fun x y c fs h => by unfold eqD at h; split at h <;> first | cases h | (split at h <;> cases h)
theorem nox_ne : NoX2 neD := fun x y c fs h => by unfold neD at h; split at h <;> first | cases h | (split at h <;> cases h)
theorem nox_isN : NoX2 isND := fun x y c fs h => by unfold isND at h; split at h <;> cases h
theorem nox_notN : NoX2 notND := fun x y c fs h => by unfold notND at h; split at h <;> cases h
theorem nox_ix : NoX2 ixD := fun x y c fs h => by unfold ixD at h; split at h <;> first | cases h | (split at h <;> cases h)
theorem nox_in {neg} : NoX2 (inD neg) := fun x y c fs h => by
  unfold inD at h
  split at h
  · cases h
  · split at h <;> first | cases h | (split at h <;> cases h)
theorem nox_neg : NoX1 negD := fun x c fs h => by unfold negD at h; split at h <;> cases h
section
variable {X : Cx} {cl : Ctx}
theorem og_add : OpR X (binaryOp .Add) (rG X.K cl addD) := by
  intro pins s σ H x y v u Q I rx ry ⟨F, dx, dy, d, sm, r1, r2, hg, q⟩
  unfold addD at hg
  split at hg
  · cases hg
    cases r1.int; cases r2.int
    exact op_add pins s σ H _ _ v u Q I rx ry ⟨_, _, rfl, rfl, q _ F H (Ent.refl sm) (.int _)⟩
  · split at hg
    · rename_i hl
      cases hg
      cases r1.str; cases r2.str
      exact op_add_str pins s σ H _ _ v u Q I rx ry ⟨_, _, rfl, rfl, hl, q _ F H (Ent.refl sm) (.str _)⟩
    · cases hg
  · split at hg
    · rename_i hl
      cases hg
      obtain ⟨a, vs, rfl, h1, h2⟩ := r1.tup
      obtain ⟨b, ws, rfl, h3, h4⟩ := r2.tup
      refine op_catT pins s σ H _ _ v u Q I rx ry ⟨a, b, vs, ws, rfl, rfl, Same.sqt sm h1, Same.sqt sm h3, ?_, by rw [h2.length, h4.length]; exact hl.2, fun e => ?_, fun e p hp => ?_⟩
      · intro z
        have := h2.length
        rw [z] at this
        exact hl.1 (List.length_eq_zero_iff.mp this.symm)
      · subst e
        cases h4
        exact q _ F H (Ent.refl sm) (.tup h1 (by simpa using h2))
      · have en := Ent.new sm (o := .tup (vs ++ ws)) hp
        exact q _ _ _ en (.tup (.inl (.inl upd_same)) ((h2.append h4).mono en.f))
    · cases hg
  · cases hg
theorem og_int2 {f : Value → Value → Sem Value} {gi : Int → Int → V} {gd : Int → Int → D} (h : OpR X f (rI0 gi)) (hr : ∀ i j F, Rp X.K cl F (gi i j) (gd i j)) {g : D → D → R D} (hg : ∀ x y d, g x y = .ok d → ∃ i j, x = .int i ∧ y = .int j ∧ d = gd i j) : OpR X f (rG X.K cl g) := by
  intro pins s σ H x y v u Q I rx ry ⟨F, dx, dy, d, sm, r1, r2, hg', q⟩
  obtain ⟨i, j, rfl, rfl, rfl⟩ := hg _ _ _ hg'
  cases r1.int; cases r2.int
  exact h pins s σ H _ _ v u Q I rx ry ⟨_, _, rfl, rfl, q _ F H (Ent.refl sm) (hr i j F)⟩
theorem og_int2C {f : Value → Value → Sem Value} {C : Int → Int → Prop} {gi : Int → Int → V} {gd : Int → Int → D} (h : OpR X f (rI C gi)) (hr : ∀ i j F, Rp X.K cl F (gi i j) (gd i j)) {g : D → D → R D} (hg : ∀ x y d, g x y = .ok d → ∃ i j, x = .int i ∧ y = .int j ∧ d = gd i j ∧ C i j) : OpR X f (rG X.K cl g) := by
  intro pins s σ H x y v u Q I rx ry ⟨F, dx, dy, d, sm, r1, r2, hg', q⟩
  obtain ⟨i, j, rfl, rfl, rfl, hc⟩ := hg _ _ _ hg'
  cases r1.int; cases r2.int
  exact h pins s σ H _ _ v u Q I rx ry ⟨_, _, rfl, rfl, hc, q _ F H (Ent.refl sm) (hr i j F)⟩
theorem og_sub : OpR X (binaryOp .Sub) (rG X.K cl subD) := og_int2 (gd := fun i j => .int (i - j)) op_sub (fun _ _ _ => .int _) fun x y d h => by unfold subD at h; split at h <;> cases h; exact ⟨_, _, rfl, rfl, rfl⟩
theorem og_lt : OpR X (compareOp .Lt) (rG X.K cl ltD) := og_int2 (gd := fun i j => .bl (decide (i < j))) op_lt (fun _ _ _ => .bl _) fun x y d h => by unfold ltD at h; split at h <;> cases h; exact ⟨_, _, rfl, rfl, rfl⟩
theorem og_le : OpR X (compareOp .LtE) (rG X.K cl leD) := og_int2 (gd := fun i j => .bl (decide (i ≤ j))) op_le (fun _ _ _ => .bl _) fun x y d h => by unfold leD at h; split at h <;> cases h; exact ⟨_, _, rfl, rfl, rfl⟩
theorem og_gt : OpR X (compareOp .Gt) (rG X.K cl gtD) := og_int2 (gd := fun i j => .bl (decide (j < i))) op_gt (fun _ _ _ => .bl _) fun x y d h => by unfold gtD at h; split at h <;> cases h; exact ⟨_, _, rfl, rfl, rfl⟩
theorem og_ge : OpR X (compareOp .GtE) (rG X.K cl geD) := og_int2 (gd := fun i j => .bl (decide (j ≤ i))) op_ge (fun _ _ _ => .bl _) fun x y d h => by unfold geD at h; split at h <;> cases h; exact ⟨_, _, rfl, rfl, rfl⟩
theorem og_mul : OpR X (binaryOp .Mult) (rG X.K cl mulD) := og_int2C (gd := fun i j => .int (i * j)) op_mul (fun _ _ _ => .int _) fun x y d h => by
  unfold mulD at h; split at h
  · split at h
    · rename_i hc; cases h; exact ⟨_, _, rfl, rfl, rfl, hc⟩
    · cases h
  · cases h
theorem og_fdiv : OpR X (binaryOp .FloorDiv) (rG X.K cl fdivD) := og_int2C (gd := fun i j => .int (i / j)) op_fdiv (fun _ _ _ => .int _) fun x y d h => by
  unfold fdivD at h; split at h
  · split at h
    · rename_i hc; cases h; exact ⟨_, _, rfl, rfl, rfl, hc⟩
    · cases h
  · cases h
theorem og_mod : OpR X (binaryOp .Mod) (rG X.K cl modD) := og_int2C (gd := fun i j => .int (i % j)) op_mod (fun _ _ _ => .int _) fun x y d h => by
  unfold modD at h; split at h
  · split at h
    · rename_i hc; cases h; exact ⟨_, _, rfl, rfl, rfl, hc⟩
    · cases h
  · cases h
theorem og_pow : OpR X (binaryOp .Pow) (rG X.K cl powD) := og_int2C (gd := fun i j => .int (i ^ j.toNat)) op_pow (fun _ _ _ => .int _) fun x y d h => by
  unfold powD at h; split at h
  · split at h
    · rename_i hc; cases h; exact ⟨_, _, rfl, rfl, rfl, hc⟩
    · cases h
  · cases h
theorem og_eq (hu : X.A.units + 64 < cLine) : OpR X (compareOp .Eq) (rG X.K cl eqD) := by
  intro pins s σ H x y v u Q I rx ry ⟨F, dx, dy, d, sm, r1, r2, hg, q⟩
  unfold eqD at hg
  split at hg
  · rename_i p p' e1 e2
    split at hg
    · rename_i hs
      cases hg
      exact op_eqD hu pins s σ H _ _ v u Q I rx ry ⟨p, p', r1.dp sm e1, r2.dp sm e2, hs.1, hs.2, q _ F H (Ent.refl sm) (.bl _)⟩
    · cases hg
  · cases hg
theorem og_ne (hu : X.A.units + 64 < cLine) : OpR X (compareOp .NotEq) (rG X.K cl neD) := by
  intro pins s σ H x y v u Q I rx ry ⟨F, dx, dy, d, sm, r1, r2, hg, q⟩
  unfold neD at hg
  split at hg
  · rename_i p p' e1 e2
    split at hg
    · rename_i hs
      cases hg
      exact op_neD hu pins s σ H _ _ v u Q I rx ry ⟨p, p', r1.dp sm e1, r2.dp sm e2, hs.1, hs.2, q _ F H (Ent.refl sm) (.bl _)⟩
    · cases hg
  · cases hg
theorem RpB.nonD {K : PySem.W.Frag} {F H : Hp} {v : V} {d : D} (r : RpB K cl F H v d) : v = .non ↔ d = .non := by
  constructor
  · rintro rfl
    rcases r with r | ⟨a, o, h1, _⟩
    · cases r; rfl
    · cases h1
  · rintro rfl
    exact r.non
theorem og_isN : OpR X (compareOp .Is) (rG X.K cl isND) := by
  intro pins s σ H x y v u Q I rx ry ⟨F, dx, dy, d, sm, r1, r2, hg, q⟩
  unfold isND at hg
  split at hg
  · cases hg; cases r2.non; cases r1.non
    exact op_isN pins s σ H _ _ v u Q I rx ry ⟨rfl, q _ F H (Ent.refl sm) (.bl true)⟩
  · rename_i hx
    cases hg; cases r2.non
    have : decide (x = V.non) = false := decide_eq_false fun z => hx (r1.nonD.mp z)
    exact op_isN pins s σ H _ _ v u Q I rx ry ⟨rfl, by rw [this]; exact q _ F H (Ent.refl sm) (.bl false)⟩
  · cases hg
theorem og_notN : OpR X (compareOp .IsNot) (rG X.K cl notND) := by
  intro pins s σ H x y v u Q I rx ry ⟨F, dx, dy, d, sm, r1, r2, hg, q⟩
  unfold notND at hg
  split at hg
  · cases hg; cases r2.non; cases r1.non
    exact op_notN pins s σ H _ _ v u Q I rx ry ⟨rfl, q _ F H (Ent.refl sm) (.bl false)⟩
  · rename_i hx
    cases hg; cases r2.non
    have : decide (x = V.non) = false := decide_eq_false fun z => hx (r1.nonD.mp z)
    exact op_notN pins s σ H _ _ v u Q I rx ry ⟨rfl, by rw [this]; exact q _ F H (Ent.refl sm) (.bl true)⟩
  · cases hg
theorem ig_ix : IxR X (rG X.K cl ixD) := by
  intro value slice pins s σ H x y v u Q I rx ry ⟨F, dx, dy, d, sm, r1, r2, hg, q⟩ hs
  unfold ixD at hg
  split at hg
  · split at hg
    · rename_i hd
      cases hg
      cases r2.int
      obtain ⟨a, vs, rfl, h1, h2⟩ := r1.lst sm
      obtain ⟨w, h3, h4⟩ := atI_map h2 hd
      exact ix_list value slice pins s σ H _ _ v u Q I rx ry ⟨a, vs, _, w, rfl, rfl, .inl (.inl h1), h3, q _ F H (Ent.refl sm) h4⟩ hs
    · cases hg
  · split at hg
    · rename_i hd
      cases hg
      cases r2.int
      obtain ⟨a, vs, rfl, h1, h2⟩ := r1.tup
      obtain ⟨w, h3, h4⟩ := atI_map h2 hd
      exact ix_tup value slice pins s σ H _ _ v u Q I rx ry ⟨a, vs, _, w, rfl, rfl, Same.sqt sm h1, h3, q _ F H (Ent.refl sm) h4⟩ hs
    · cases hg
  · split at hg
    · rename_i hd
      cases hg
      cases r2.int
      obtain ⟨a, vs, rfl, h1, h2⟩ := r1.scr sm
      obtain ⟨w, h3, h4⟩ := atI_map h2 hd
      exact ix_list value slice pins s σ H _ _ v u Q I rx ry ⟨a, vs, _, w, rfl, rfl, h1, h3, q _ F H (Ent.refl sm) h4⟩ hs
    · cases hg
  · cases hg
theorem og_in0 {neg : Bool} {f : Value → Value → Sem Value} (h : OpR X f (rIn X.K neg)) : OpR X f (rG X.K cl (inD neg)) := by
  intro pins s σ H x y v u Q I rx ry ⟨F, dx, dy, d, sm, r1, r2, hg, q⟩
  unfold inD at hg
  split at hg
  · cases hg
  · rename_i w hw
    obtain ⟨rfl, hf⟩ := r1.flat hw
    split at hg
    · split at hg
      · rename_i ws hws
        cases hg
        obtain ⟨a, vs, rfl, h1, h2⟩ := r2.lst sm
        obtain ⟨rfl, hfs⟩ := flat_vs h2 hws
        exact h pins s σ H _ _ v u Q I rx ry ⟨a, _, rfl, .inl (.inl (.inl h1)), hf, hfs, q _ F H (Ent.refl sm) (.bl _)⟩
      · cases hg
    · split at hg
      · rename_i ws hws
        cases hg
        obtain ⟨a, vs, rfl, h1, h2⟩ := r2.tup
        obtain ⟨rfl, hfs⟩ := flat_vs h2 hws
        exact h pins s σ H _ _ v u Q I rx ry ⟨a, _, rfl, .inr (Same.sqt sm h1), hf, hfs, q _ F H (Ent.refl sm) (.bl _)⟩
      · cases hg
    · cases hg
theorem og_in : OpR X (compareOp .In) (rG X.K cl (inD false)) := og_in0 op_in_seq
theorem og_notIn : OpR X (compareOp .NotIn) (rG X.K cl (inD true)) := og_in0 op_notIn_seq
theorem ug_neg : UnR X (unaryOp .USub) (rG1 X.K cl negD) := by
  intro pins s σ H x v Q I rx ⟨F, dx, d, sm, r1, hg, q⟩
  unfold negD at hg
  split at hg
  · cases hg
    cases r1.int
    exact un_neg pins s σ H _ v Q I rx ⟨_, rfl, q _ F H (Ent.refl sm) (.int _)⟩
  · cases hg
end
end VS
namespace VS
open PySem PySem.Spec PyProof.Rows L2
/-! ### built-in functions of one argument -/
section
variable (K : PySem.W.Frag) (cl : Ctx)
/-- its value is a new thing -/
def rGO1 (g : D → R D) : V → Hp → VK → Prop := fun x H Q => ∃ F dx d, Same F H ∧ RpB K cl F H x dx ∧ g dx = .ok d ∧ ∀ a o F' H', Ent F H F' H' → H a = none → H' a = some o → F' a = none → Cell K cl F' a o d → Q (.ref a) H'
def c1 (r : V → Hp → VK → Prop) : List V → Hp → VK → Prop := fun xs H Q => ∃ x, xs = [x] ∧ r x H Q
end
section
variable {X : Cx} {cl : Ctx} {En : Ety} {W : WX} {ro : Bool} {OB O : List Nat} {e : Expr} {f : Sl → R D} {p pos : Pos} {x : Str} {id T : String} {g : D → R D}
theorem vo_t1 {fa : Sl → R D} (hx : NoX1 g) (σ : L2.St) (H : Hp) (Q : VK) (h : tO X cl En W O (e1 g fa) σ H Q) : tB X cl En W O fa σ H fun x H1 => rGO1 X.K cl g x H1 Q := by
  obtain ⟨s, F, S, p⟩ := h
  refine ⟨s, F, S, p.bind fun dx _ p1 x F1 H1 e1 r1 => ?_⟩
  cases q : g dx with
  | ok d => rw [q] at p1; exact ⟨F1, dx, d, e1.fh, r1, q, fun a o F' H' e' h1 h2 h3 h4 => p1 a o F' H' (e1.trans e') (e1.h.free h1) h2 h3 h4⟩
  | exc c fs => exact absurd q (hx _ _ _)
  | bad => rw [q] at p1; exact p1.elim
theorem ve_cb1 (hc : CallR X (.builtin id) (c1 (rG1 X.K cl g))) (hx : NoX1 g) (hm : X.mg x = none) (hv : bootBuiltins x = some (.builtin id)) (ha : VB X cl En W O e f) (hg : Gl X x := by rfl) (hn : x ≠ "__name__" := by decide) (hdb : (x == ("__debug__" : Str)) = false := by decide)
    (he : starEach [e] X.env = (false, eval e X.env) :: starEach [] X.env := by rfl) (hpl : (backTo pos (starEach [] X.env)).any (·.1) = false := by rfl) : VE X cl En W O (.Call (.Name x p) [e] [] pos) (e1 g f) :=
  PE.weak (pe_callB hc hg hm hv (pa_cons ha pa_nil he) hn hdb he hpl) fun σ H Q h => by
    have q := ve_t1 hx σ H Q h
    obtain ⟨s, F, S, p⟩ := q
    exact ⟨s, F, S, p.imp fun d _ k v F' H' e' r => ⟨v, rfl, k v F' H' e' r⟩⟩
theorem ve_cty1 (hc : CallR X (.type T) (c1 (rG1 X.K cl g))) (hx : NoX1 g) (hm : X.mg x = none) (hv : bootBuiltins x = some (.type T)) (ha : VB X cl En W O e f) (hg : Gl X x := by rfl) (hn : x ≠ "__name__" := by decide) (hdb : (x == ("__debug__" : Str)) = false := by decide)
    (he : starEach [e] X.env = (false, eval e X.env) :: starEach [] X.env := by rfl) (hpl : (backTo pos (starEach [] X.env)).any (·.1) = false := by rfl) : VE X cl En W O (.Call (.Name x p) [e] [] pos) (e1 g f) :=
  PE.weak (pe_callTy hc hg hm hv (pa_cons ha pa_nil he) hn hdb he hpl) fun σ H Q h => by
    have q := ve_t1 hx σ H Q h
    obtain ⟨s, F, S, p⟩ := q
    exact ⟨s, F, S, p.imp fun d _ k v F' H' e' r => ⟨v, rfl, k v F' H' e' r⟩⟩
theorem vo_cb1 (hc : CallR X (.builtin id) (c1 (rGO1 X.K cl g))) (hx : NoX1 g) (hm : X.mg x = none) (hv : bootBuiltins x = some (.builtin id)) (ha : VB X cl En W O e f) (hg : Gl X x := by rfl) (hn : x ≠ "__name__" := by decide) (hdb : (x == ("__debug__" : Str)) = false := by decide)
    (he : starEach [e] X.env = (false, eval e X.env) :: starEach [] X.env := by rfl) (hpl : (backTo pos (starEach [] X.env)).any (·.1) = false := by rfl) : VO X cl En W O (.Call (.Name x p) [e] [] pos) (e1 g f) :=
  PE.weak (pe_callB hc hg hm hv (pa_cons ha pa_nil he) hn hdb he hpl) fun σ H Q h => by
    have q := vo_t1 hx σ H Q h
    obtain ⟨s, F, S, p⟩ := q
    exact ⟨s, F, S, p.imp fun d _ k v F' H' e' r => ⟨v, rfl, k v F' H' e' r⟩⟩
theorem vo_cty1 (hc : CallR X (.type T) (c1 (rGO1 X.K cl g))) (hx : NoX1 g) (hm : X.mg x = none) (hv : bootBuiltins x = some (.type T)) (ha : VB X cl En W O e f) (hg : Gl X x := by rfl) (hn : x ≠ "__name__" := by decide) (hdb : (x == ("__debug__" : Str)) = false := by decide)
    (he : starEach [e] X.env = (false, eval e X.env) :: starEach [] X.env := by rfl) (hpl : (backTo pos (starEach [] X.env)).any (·.1) = false := by rfl) : VO X cl En W O (.Call (.Name x p) [e] [] pos) (e1 g f) :=
  PE.weak (pe_callTy hc hg hm hv (pa_cons ha pa_nil he) hn hdb he hpl) fun σ H Q h => by
    have q := vo_t1 hx σ H Q h
    obtain ⟨s, F, S, p⟩ := q
    exact ⟨s, F, S, p.imp fun d _ k v F' H' e' r => ⟨v, rfl, k v F' H' e' r⟩⟩
end
/-! ### len, abs, int, sum, list, tuple, sorted -/
def lenD : D → R D
  | .lst l => .ok (.int l.length)
  | .tup l => .ok (.int l.length)
  | .scr l => .ok (.int l.length)
  | .str x => if x.length ≤ sizeLine then .ok (.int x.length) else .bad
  | _ => .bad
def absD : D → R D | .int i => .ok (.int (if i < 0 then -i else i)) | _ => .bad
def intD : D → R D | .int i => .ok (.int i) | .bl k => .ok (.int (if k = true then 1 else 0)) | _ => .bad
def intsOf : List D → Option (List Int)
  | [] => some []
  | .int i :: r => (intsOf r).map (i :: ·)
  | _ :: _ => none
def sumD : D → R D | .lst l => (match intsOf l with | some ns => .ok (.int ns.sum) | none => .bad) | _ => .bad
def listD : D → R D | .lst l => .ok (.lst l) | .tup l => .ok (.lst l) | _ => .bad
def tupleD : D → R D | .lst l => .ok (.tup l) | .tup l => .ok (.tup l) | _ => .bad
def enc (d : D) : PyData := (toPy d).getD .none
def sortOk (ds : List D) : Bool := (toPyA ds).isSome && (ds.all fun a => ds.all fun b => PySem.W.alike (enc a) (enc b)) && ((ds.all fun a => match enc a with | .tuple (_ :: _) => true | _ => false) || (ds.all fun a => match enc a with | .tuple _ => false | .none => false | _ => true)) &&
  (ds.all fun a => decide ((enc a).depth ≤ 32))
def sortL (ds : List D) : List D := ds.mergeSort (PySem.W.dataLe false enc)
def sortD : D → R D | .lst l => if sortOk l = true then .ok (.lst (sortL l)) else .bad | _ => .bad
theorem nox_len : NoX1 lenD := fun x c fs h => by unfold lenD at h; split at h <;> first | cases h | (split at h <;> cases h)
theorem nox_abs : NoX1 absD := fun x c fs h => by unfold absD at h; split at h <;> cases h
theorem nox_int : NoX1 intD := fun x c fs h => by unfold intD at h; split at h <;> cases h
theorem nox_sum : NoX1 sumD := fun x c fs h => by unfold sumD at h; split at h <;> first | cases h | (split at h <;> cases h)
theorem nox_list : NoX1 listD := fun x c fs h => by unfold listD at h; split at h <;> cases h
theorem nox_tuple : NoX1 tupleD := fun x c fs h => by unfold tupleD at h; split at h <;> cases h
theorem nox_sort : NoX1 sortD := fun x c fs h => by unfold sortD at h; split at h <;> first | cases h | (split at h <;> cases h)
section
variable {X : Cx} {cl : Ctx} {F H : Hp}
theorem RpA.ints : ∀ {vs : List V} {ds : List D} {ns : List Int}, RpA X.K cl F vs ds → intsOf ds = some ns → vs = ns.map V.int
  | _, _, _, .nil, h => by simp only [intsOf] at h; cases h; rfl
  | _, _, _, .cons (d := d) (ds := ds) r1 r2, h => by
    cases r1 <;> simp only [intsOf] at h <;> try cases h
    rename_i i
    cases q : intsOf ds with
    | none => rw [q] at h; cases h
    | some ms =>
      rw [q] at h
      cases h
      rw [RpA.ints r2 q]
      rfl
theorem cg_len : CallR X (.builtin "len") (c1 (rG1 X.K cl lenD)) := by
  intro pins s σ H xs us Q I r ⟨x, ex, F, dx, d, sm, r1, hg, q⟩
  subst ex
  unfold lenD at hg
  split at hg
  · cases hg
    obtain ⟨a, vs, rfl, h1, h2⟩ := r1.lst sm
    exact call_len pins s σ H _ us Q I r ⟨_, vs.length, rfl, .inl ⟨vs, .inl (.inl h1), rfl⟩, by rw [h2.length]; exact q _ F H (Ent.refl sm) (.int _)⟩
  · cases hg
    obtain ⟨a, vs, rfl, h1, h2⟩ := r1.tup
    exact call_len pins s σ H _ us Q I r ⟨_, vs.length, rfl, .inr ⟨vs, Same.sqt sm h1, rfl⟩, by rw [h2.length]; exact q _ F H (Ent.refl sm) (.int _)⟩
  · cases hg
    obtain ⟨a, vs, rfl, h1, h2⟩ := r1.scr sm
    exact call_len pins s σ H _ us Q I r ⟨_, vs.length, rfl, .inl ⟨vs, h1, rfl⟩, by rw [h2.length]; exact q _ F H (Ent.refl sm) (.int _)⟩
  · split at hg
    · rename_i hl
      cases hg
      cases r1.str
      exact call_len pins s σ H _ us Q I r ⟨_, _, rfl, ⟨hl, rfl⟩, q _ F H (Ent.refl sm) (.int _)⟩
    · cases hg
  · cases hg
theorem cg_abs : CallR X (.builtin "abs") (c1 (rG1 X.K cl absD)) := by
  intro pins s σ H xs us Q I r ⟨x, ex, F, dx, d, sm, r1, hg, q⟩
  subst ex
  unfold absD at hg
  split at hg
  · cases hg; cases r1.int
    exact call_abs pins s σ H _ us Q I r ⟨_, rfl, q _ F H (Ent.refl sm) (.int _)⟩
  · cases hg
theorem cg_int : CallR X (.type "int") (c1 (rG1 X.K cl intD)) := by
  intro pins s σ H xs us Q I r ⟨x, ex, F, dx, d, sm, r1, hg, q⟩
  subst ex
  unfold intD at hg
  split at hg
  · cases hg; cases r1.int
    exact call_int1 pins s σ H _ us Q I r (.inl ⟨_, rfl, q _ F H (Ent.refl sm) (.int _)⟩)
  · cases hg; cases r1.bl
    exact call_int1 pins s σ H _ us Q I r (.inr ⟨_, rfl, q _ F H (Ent.refl sm) (.int _)⟩)
  · cases hg
theorem cg_sum (hc : X.calm = true) : CallR X (.builtin "sum") (c1 (rG1 X.K cl sumD)) := by
  intro pins s σ H xs us Q I r ⟨x, ex, F, dx, d, sm, r1, hg, q⟩
  subst ex
  unfold sumD at hg
  split at hg
  · split at hg
    · rename_i hns
      cases hg
      obtain ⟨a, vs, rfl, h1, h2⟩ := r1.lst sm
      have := h2.ints hns
      subst this
      exact cr_sum hc pins s σ H _ us Q I r ⟨a, _, rfl, .inl (.inl h1), q _ F H (Ent.refl sm) (.int _)⟩
    · cases hg
  · cases hg
theorem cg_list : CallR X (.type "list") (c1 (rGO1 X.K cl listD)) := by
  intro pins s σ H xs us Q I r ⟨x, ex, F, dx, d, sm, r1, hg, q⟩
  subst ex
  unfold listD at hg
  split at hg
  · cases hg
    obtain ⟨a, vs, rfl, h1, h2⟩ := r1.lst sm
    exact call_list_of pins s σ H _ us Q I r ⟨a, vs, rfl, .inl (.inl (.inl h1)), fun l hl => q _ _ _ _ (Ent.cell sm hl) hl upd_same (sm.free hl) (.lst h2)⟩
  · cases hg
    obtain ⟨a, vs, rfl, h1, h2⟩ := r1.tup
    exact call_list_of pins s σ H _ us Q I r ⟨a, vs, rfl, .inr (Same.sqt sm h1), fun l hl => q _ _ _ _ (Ent.cell sm hl) hl upd_same (sm.free hl) (.lst h2)⟩
  · cases hg
theorem cg_tuple : CallR X (.type "tuple") (c1 (rG1 X.K cl tupleD)) := by
  intro pins s σ H xs us Q I r ⟨x, ex, F, dx, d, sm, r1, hg, q⟩
  subst ex
  unfold tupleD at hg
  split at hg
  · cases hg
    obtain ⟨a, vs, rfl, h1, h2⟩ := r1.lst sm
    exact call_tuple_of pins s σ H _ us Q I r ⟨a, vs, rfl, .inl ⟨.inl (.inl h1), fun l hl => q _ _ _ (Ent.new sm hl) (.tup (.inl (.inl upd_same)) (h2.mono (Ent.new sm hl).f))⟩⟩
  · cases hg
    obtain ⟨a, vs, rfl, h1, h2⟩ := r1.tup
    exact call_tuple_of pins s σ H _ us Q I r ⟨a, vs, rfl, .inr ⟨Same.sqt sm h1, q _ F H (Ent.refl sm) (.tup h1 h2)⟩⟩
  · cases hg
/-! #### sorted -/
theorem each_of : ∀ {vs : List V} {us : List Value} {ds : List D}, Vals vs us → RpA X.K cl F vs ds → PySem.W.EachIs (fun u d => ∃ v, RelV v u ∧ Rp X.K cl F v d) us ds
  | _, _, _, .nil, .nil => .nil
  | _, _, _, .cons r t, .cons h q => .cons ⟨_, r, h⟩ (each_of t q)
theorem of_each : ∀ {us : List Value} {ds : List D}, PySem.W.EachIs (fun u d => ∃ v, RelV v u ∧ Rp X.K cl F v d) us ds → ∃ vs, Vals vs us ∧ RpA X.K cl F vs ds
  | _, _, .nil => ⟨[], .nil, .nil⟩
  | _, _, .cons ⟨v, r, h⟩ t => by
    obtain ⟨vs, a, b⟩ := of_each t
    exact ⟨v :: vs, .cons r a, .cons h b⟩
theorem enc_some : ∀ {ds : List D}, (toPyA ds).isSome = true → ∀ d ∈ ds, toPy d = some (enc d)
  | [], _, d, hd => by cases hd
  | a :: r, h, d, hd => by
    simp only [toPyA] at h
    cases q1 : toPy a with
    | none => rw [q1] at h; simp at h
    | some p =>
      cases q2 : toPyA r with
      | none => rw [q1, q2] at h; simp at h
      | some ps =>
        rcases List.mem_cons.mp hd with rfl | hd
        · unfold enc; rw [q1]; rfl
        · exact enc_some (by rw [q2]; rfl) d hd
theorem cg_sorted (hu : X.A.units + 64 < cLine) : CallR X (.builtin "sorted") (c1 (rGO1 X.K cl sortD)) := by
  intro pins s σ H xs us Q I r ⟨x, ex, F, dx, d, sm, r1, hg, q⟩
  subst ex
  unfold sortD at hg
  split at hg
  · rename_i l
    split at hg
    · rename_i hok
      cases hg
      unfold sortOk at hok
      simp only [Bool.and_eq_true, Bool.or_eq_true] at hok
      obtain ⟨⟨⟨h1, h2⟩, h3⟩, h4⟩ := hok
      obtain ⟨a, vs, rfl, g1, g2⟩ := r1.lst sm
      obtain ⟨its, rv, hl, hz⟩ := I.list (.inl (.inl g1))
      rw [Vals.ref1 r]
      have es := enc_some h1
      have hR : PySem.W.EachIs (fun v b => ∃ as, Reads s.heap v (enc b) as) its l := by
        have : ∀ {vs : List V} {its : List Value} {l : List D}, Vals vs its → RpA X.K cl F vs l → (∀ d ∈ l, toPy d = some (enc d)) → PySem.W.EachIs (fun v b => ∃ as, Reads s.heap v (enc b) as) its l := by
          intro vs its l rv g2 es
          induction rv generalizing l with
          | nil => cases g2; exact .nil
          | cons r t ih =>
            cases g2 with
            | cons h q => exact .cons (Dp.reads I _ _ _ (h.dp sm (es _ List.mem_cons_self)) r) (ih q fun d hd => es d (List.mem_cons_of_mem _ hd))
        exact this rv g2 es
      have hlen : l.length = vs.length := g2.length.symm
      refine PySem.W.sorted_data (bs := l) (enc := enc) (R := fun u d => ∃ v, RelV v u ∧ Rp X.K cl F v d) hl.isList (each_of rv g2) hR ?_ ?_ (by rw [hlen]; exact hz) (fun b hb => ?_) fun out ho he => ?_
      · intro d hd d' hd'
        obtain ⟨b, hb, rfl⟩ := List.mem_map.mp hd
        obtain ⟨b', hb', rfl⟩ := List.mem_map.mp hd'
        exact List.all_eq_true.mp (List.all_eq_true.mp h2 b hb) b' hb'
      · rcases h3 with h3 | h3
        · refine .inl fun d hd => ?_
          obtain ⟨b, hb, rfl⟩ := List.mem_map.mp hd
          have := List.all_eq_true.mp h3 b hb
          split at this
          · rename_i e; exact ⟨_, _, e⟩
          · cases this
        · refine .inr fun d hd => ?_
          obtain ⟨b, hb, rfl⟩ := List.mem_map.mp hd
          have := List.all_eq_true.mp h3 b hb
          constructor
          · intro z; rw [z] at this; cases this
          · intro xs z; rw [z] at this; cases this
      · have := of_decide_eq_true (List.all_eq_true.mp h4 b hb)
        omega
      · obtain ⟨vs', k1, k2⟩ := of_each he
        obtain ⟨ep, he'⟩ := PyProof.Rows.sortedAll_at s.heap its out.toArray
        have hl2 : vs'.length ≤ sizeLine := by rw [k1.length, ho, hlen]; exact hz
        have fr : H (s.heap.objs.size + 1) = none := I.hok.fresh (Nat.le_succ _)
        refine ⟨.ref _, upd H (s.heap.objs.size + 1) (.lst vs'), I.laid (t' := s.toks) (fun _ _ => PyProof.Rows.sortedAll_old) (Nat.le_succ _) ⟨hl2, out, ep, k1, he'⟩, rfl, ?_⟩
        exact q _ _ _ _ (Ent.cell sm fr) fr upd_same (sm.free fr) (.lst k2)
    · cases hg
  · cases hg
end
end VS
namespace VS
open PySem PySem.Spec PyProof.Rows L2
/-! ### comprehensions -/
def wipeS (s : Sl) : List Nat → Sl
  | [] => s
  | v :: vs => (wipeS s vs).set v none
theorem wipeS_len (s : Sl) : ∀ vs, (wipeS s vs).length = s.length
  | [] => rfl
  | v :: vs => by rw [wipeS, List.length_set, wipeS_len s vs]
theorem wipeS_some {s : Sl} {i : Nat} {d : D} : ∀ {vs : List Nat}, (wipeS s vs)[i]? = some (some d) → s[i]? = some (some d) ∧ i ∉ vs
  | [], h => ⟨h, by simp⟩
  | v :: vs, h => by
    unfold wipeS at h
    rcases set_get h with ⟨h1, h2, h3⟩ | ⟨h1, h2⟩
    · cases h2
    · obtain ⟨g1, g2⟩ := wipeS_some h2
      exact ⟨g1, by simp only [List.mem_cons, not_or]; exact ⟨fun e => h1 e.symm, g2⟩⟩
theorem wipe_in {σ : L2.St} {i : Nat} : ∀ {vs : List Nat}, i ∈ vs → (wipe σ vs)[i]? = if i < σ.length then some none else none
  | v :: vs, h => by
    unfold wipe
    by_cases e : v = i
    · subst e
      by_cases hl : v < σ.length
      · rw [List.getElem?_set_self (by rw [wipe_length]; exact hl), if_pos hl]
      · rw [List.getElem?_eq_none (by rw [List.length_set, wipe_length]; omega), if_neg hl]
    · rw [List.getElem?_set_ne e]
      exact wipe_in ((List.mem_cons.mp h).resolve_left fun z => e z.symm)
theorem wipe_only {σ σ2 : L2.St} {vs is : List Nat} (h : Only is (wipe σ vs) σ2) (hs : ∀ j ∈ is, j ∈ vs) : wipe σ2 vs = wipe σ vs := by
  apply List.ext_getElem?
  intro i
  have hl : σ2.length = σ.length := by rw [h.1, wipe_length]
  by_cases hi : i ∈ vs
  · rw [wipe_in hi, wipe_in hi, hl]
  · rw [wipe_out hi, wipe_out hi, h.2 i (fun z => hi (hs i z)), wipe_out hi]
theorem SlOk.wiped {K : PySem.W.Frag} {cl : Ctx} {En : Ety} {F H : Hp} {O : List Nat} {s : Sl} {σ : L2.St} (S : SlOk K cl En O s σ F H) (vs : List Nat) (hme : En.me = none ∨ 0 ∉ vs) : SlOk K cl En O (wipeS s vs) (wipe σ vs) F H := by
  have go : ∀ {i d}, (wipeS s vs)[i]? = some (some d) → s[i]? = some (some d) ∧ (wipe σ vs)[i]? = σ[i]? := fun h => by
    obtain ⟨h1, h2⟩ := wipeS_some h
    exact ⟨h1, wipe_out h2⟩
  refine ⟨by rw [wipeS_len, wipe_length]; exact S.len, fun i d hi hs => ?_, fun i d hi hs => ?_, fun i j d e a hi hj hs hs' h1 h2 => ?_, S.ent, fun x hx => ?_⟩
  · obtain ⟨g1, g2⟩ := go hs
    rw [g2]; exact S.val i d hi g1
  · obtain ⟨g1, g2⟩ := go hs
    rw [g2]; exact S.own i d hi g1
  · obtain ⟨g1, g2⟩ := go hs
    obtain ⟨g3, g4⟩ := go hs'
    rw [g2] at h1
    rw [g4] at h2
    exact S.dist i j d e a hi hj g1 g3 h1 h2
  · rcases hme with h | h
    · rw [h] at hx; cases hx
    · rw [wipe_out h]; exact S.me x hx
def strict {α : Type} : R α → R α | .ok a => .ok a | _ => .bad
def lcLoop (t : D → Sl → R Sl) (tt : Sl → R Bool) (fe : Sl → R D) (sw : Sl) : List D → R (List D)
  | [] => .ok []
  | d :: ds => match t d sw with
    | .ok s1 => (tt s1).bind fun b => if b then (fe s1).bind fun y => (lcLoop t tt fe sw ds).bind fun r => .ok (y :: r) else lcLoop t tt fe sw ds
    | _ => .bad
def eLc (vs : List Nat) (fi : Sl → R (List D)) (t : D → Sl → R Sl) (tt : Sl → R Bool) (fe : Sl → R D) : Sl → R D := fun s => (fi s).bind fun ds => if ds.length ≤ lim then (strict (lcLoop t tt fe (wipeS s vs) ds)).bind fun l => .ok (.lst l) else .bad
def tY : Sl → R Bool := fun _ => .ok true
def VTs (X : Cx) (cl : Ctx) (En : Ety) (W : WX) (O : List Nat) (ifs : List Expr) (f : Sl → R Bool) : Prop := PTs X ifs (tT X cl En W O f)
abbrev W0 : WX := fun _ _ _ _ => False
section
variable {X : Cx} {cl : Ctx} {En : Ety} {W : WX} {ro : Bool} {OB O : List Nat} {elt tg iter e : Expr} {ifs : List Expr} {scope : Scope} {own : List (Str × Nat)} {pos spos : Pos} {fi : Sl → R (List D)} {t : D → Sl → R Sl} {tt : Sl → R Bool} {fe : Sl → R D} {is : List Nat}
theorem vts_nil : VTs X cl En W O [] tY := ⟨fun pins s σ H Q I ⟨s', F, S, p⟩ => pts_nil.run pins s σ H Q I (p F H (Ent.refl S.fh))⟩
theorem vts_one (h : VT X cl En W O e tt) : VTs X cl En W O [e] tt := pts_one h
theorem tLc_V {K : PySem.W.Frag} (X' : Cx) (hK : X'.K = X.K) {vs : List Nat} (hs : ∀ j ∈ is, j ∈ vs) (hme : En.me = none ∨ 0 ∉ vs) (σ : L2.St) (H : Hp) (Q : VK) (h : tO X cl En W O (eLc vs fi t tt fe) σ H Q) :
    tLc (tIt X cl En W O fi) (tG X' cl En O is t) (tT X' cl En W0 O tt) (tV X' cl En W0 O fe) vs σ H Q := by
  obtain ⟨s, F, S, p⟩ := h
  refine ⟨s, F, S, p.bind fun ds hds p1 J F1 H1 e1 wk Dl hD => ?_⟩
  by_cases hl : ds.length ≤ lim
  · rw [if_pos hl] at p1
    cases q : lcLoop t tt fe (wipeS s vs) ds with
    | exc c fs => rw [q] at p1; exact p1.elim
    | bad => rw [q] at p1; exact p1.elim
    | ok fl =>
      rw [q] at p1
      have p1 : ∀ a o F' H', Ent F H F' H' → H a = none → H' a = some o → F' a = none → Cell X.K cl F' a o (.lst fl) → Q (.ref a) H' := p1
      have S1 := S.grow e1
      have nown : ∀ i ∈ O, ∀ d, s[i]? = some (some d) → σ[i]? ≠ some (some (.ref Dl)) := fun i hi d hd w => by
        obtain ⟨a, o, g1, g2, _⟩ := S1.own i d hi hd
        rw [g1] at w
        cases w
        rw [hD] at g2
        cases g2
      have h0D : En.H0 Dl = none := S1.ent.h.free hD
      have F1D : F1 Dl = none := e1.fh.free hD
      refine ⟨fun i m H' => m = ds.length - i ∧ i ≤ ds.length ∧ ∃ F' acc dacc r, Ent F1 H1 F' H' ∧ SlOk X.K cl En O s σ F' H' ∧ H' Dl = some (.lst acc) ∧ F' Dl = none ∧ RpA X.K cl F' acc dacc ∧ dacc.length ≤ i ∧ lcLoop t tt fe (wipeS s vs) (ds.drop i) = .ok r ∧ fl = dacc ++ r,
        ⟨ds.length, rfl, Nat.zero_le _, F1, [], [], fl, Ent.cell e1.fh hD, S1.other h0D F1D nown, upd_same, F1D, .nil, Nat.le_refl _, by simpa using q, rfl⟩, ?_⟩
      rintro i m H' ⟨hm, hi, F', acc, dacc, r, en, S', hA, hF, ra, hz, hr, hfl⟩
      cases hd : ds[i]? with
      | none =>
        have hle : ds.length ≤ i := List.getElem?_eq_none_iff.mp hd
        have : i = ds.length := by omega
        subst this
        rw [List.drop_length] at hr
        cases hr
        refine .inl ⟨wk.1 F' H' en.f S'.fh, p1 Dl _ F' H' (e1.trans en) (e1.h.free hD) hA hF ?_⟩
        rw [hfl, List.append_nil]
        exact .lst ra
      | some d =>
        obtain ⟨hlt, hd'⟩ := List.getElem?_eq_some_iff.mp hd
        obtain ⟨go, yl⟩ := wk.2 i d F' H' en.f S'.fh hd
        rw [List.drop_eq_getElem_cons hlt, hd'] at hr
        unfold lcLoop at hr
        refine .inr ⟨go, fun H2 => ∃ m', m' < m ∧ (m' = ds.length - (i + 1) ∧ i + 1 ≤ ds.length ∧ ∃ F' acc dacc r, Ent F1 H1 F' H2 ∧ SlOk X.K cl En O s σ F' H2 ∧ H2 Dl = some (.lst acc) ∧ F' Dl = none ∧ RpA X.K cl F' acc dacc ∧ dacc.length ≤ i + 1 ∧ lcLoop t tt fe (wipeS s vs) (ds.drop (i + 1)) = .ok r ∧ fl = dacc ++ r), fun _ h => h, fun x H2 y => ?_⟩
        obtain ⟨F2, en2, rx⟩ := yl x H2 y
        have S2 := S'.grow en2
        have hD2 : H2 Dl = some (.lst acc) := en2.h _ _ hA
        have hF2 : F2 Dl = none := en2.fr _ (by rw [hA]; simp) hF
        refine ⟨wipeS s vs, F2, d, by rw [hK]; exact S2.wiped vs hme, by rw [hK]; exact rx, ?_⟩
        cases ht : t d (wipeS s vs) with
        | exc c fs => rw [ht] at hr; cases hr
        | bad => rw [ht] at hr; cases hr
        | ok s1 =>
          rw [ht] at hr
          intro σ2 Sx o2
          refine ⟨wipe_only o2 hs, s1, F2, Sx, ?_⟩
          have hr : ((tt s1).bind fun b => if b then (fe s1).bind fun y => (lcLoop t tt fe (wipeS s vs) (ds.drop (i + 1))).bind fun r => .ok (y :: r) else lcLoop t tt fe (wipeS s vs) (ds.drop (i + 1))) = .ok r := hr
          cases hb : tt s1 with
          | exc c fs => rw [hb] at hr; cases hr
          | bad => rw [hb] at hr; cases hr
          | ok b =>
            rw [hb] at hr
            intro F3 H3 e3
            have S3 := S2.grow (by exact e3)
            have hD3 : H3 Dl = some (.lst acc) := e3.h _ _ hD2
            have hF3 : F3 Dl = none := e3.fr _ (by rw [hD2]; simp) hF2
            cases b with
            | false =>
              exact iteF ⟨ds.length - (i + 1), by omega, rfl, by omega, F3, acc, dacc, r, (en.trans en2).trans e3, S3, hD3, hF3, ra.mono (en2.f.trans e3.f), by omega, hr, hfl⟩
            | true =>
              refine iteT ⟨s1, F3, Sx.grow e3, ?_⟩
              have hr : ((fe s1).bind fun y => (lcLoop t tt fe (wipeS s vs) (ds.drop (i + 1))).bind fun r => .ok (y :: r)) = .ok r := hr
              cases hy : fe s1 with
              | exc c fs => rw [hy] at hr; cases hr
              | bad => rw [hy] at hr; cases hr
              | ok yd =>
                rw [hy] at hr
                cases hl2 : lcLoop t tt fe (wipeS s vs) (ds.drop (i + 1)) with
                | exc c fs => rw [hl2] at hr; cases hr
                | bad => rw [hl2] at hr; cases hr
                | ok r2 =>
                  rw [hl2] at hr
                  cases hr
                  intro v F4 H4 e4 rv
                  rw [hK] at rv
                  have hD4 : H4 Dl = some (.lst acc) := e4.h _ _ hD3
                  have hF4 : F4 Dl = none := e4.fr _ (by rw [hD3]; simp) hF3
                  have S4 := S3.grow e4
                  have en4 := ((en.trans en2).trans e3).trans e4
                  have ra4 := ra.mono ((en2.f.trans e3.f).trans e4.f)
                  refine ⟨acc, hD4, ?_, ds.length - (i + 1), by omega, rfl, by omega, F4, acc ++ [v], dacc ++ [yd], r2, en4.set hD hF4, S4.other h0D hF4 nown, upd_same, hF4, ra4.append (.one rv), by rw [List.length_append]; simp; omega, rfl, by rw [hfl]; simp⟩
                  rw [ra.length]
                  exact Nat.lt_of_lt_of_le (by omega : dacc.length < lim) lim_le
  · rw [if_neg hl] at p1; exact p1.elim
theorem vo_lc (hc : X.calm = true) (hN : X.N.Nodup) (hi : VI X cl En W O tg iter fi) (ok : BlkOk X.N X.env.scope scope own)
    (hg : ∀ (s : Shared) (H : Hp) (C : Addr) (cc : List (Str × Addr)) (fp : List Addr), VG (X.blk s H scope (compEnvC scope cc C X.env) fp) cl En O is tg t) (ht : ∀ (s : Shared) (H : Hp) (C : Addr) (cc : List (Str × Addr)) (fp : List Addr), VTs (X.blk s H scope (compEnvC scope cc C X.env) fp) cl En W0 O ifs tt)
    (he : ∀ (s : Shared) (H : Hp) (C : Addr) (cc : List (Str × Addr)) (fp : List Addr), VE (X.blk s H scope (compEnvC scope cc C X.env) fp) cl En W0 O elt fe) (hsub : ∀ j ∈ is, j ∈ own.map (·.2) := by decide) (hmw : En.me = none ∨ 0 ∉ own.map (·.2) := by first | exact .inl rfl | exact .inr (by decide)) (hs : ∀ x, foldedSetIterable iter X.env x = pure x := by intro _; rfl) :
    VO X cl En W O (.ListComp elt [⟨tg, iter, ifs, 0⟩] scope pos) (eLc (own.map (·.2)) fi t tt fe) :=
  PE.weak (pe_lc (g := tG X cl En O is t) (tt := tT X cl En W0 O tt) (te := tV X cl En W0 O fe) hc hN hi ok (fun s H C cc fp => hg s H C cc fp) (fun s H C cc fp => ht s H C cc fp) (fun s H C cc fp => he s H C cc fp) hs) fun σ H Q h => tLc_V (K := X.K) X rfl hsub hmw σ H Q h
/-- name = [..], a plain local -/
theorem vs_setLc {i : Nat} {y : Str} {py : Pos} (hc : X.calm = true) (hN : X.N.Nodup) (hi : VI X cl En W O tg iter fi) (ok : BlkOk X.N X.env.scope scope own)
    (hg : ∀ (s : Shared) (H : Hp) (C : Addr) (cc : List (Str × Addr)) (fp : List Addr), VG (X.blk s H scope (compEnvC scope cc C X.env) fp) cl En O is tg t) (ht : ∀ (s : Shared) (H : Hp) (C : Addr) (cc : List (Str × Addr)) (fp : List Addr), VTs (X.blk s H scope (compEnvC scope cc C X.env) fp) cl En W0 O ifs tt)
    (he : ∀ (s : Shared) (H : Hp) (C : Addr) (cc : List (Str × Addr)) (fp : List Addr), VE (X.blk s H scope (compEnvC scope cc C X.env) fp) cl En W0 O elt fe)
    (hy : X.N[i]? = some y := by rfl) (hyl : X.env.scope.names.lookup y = some .local := by rfl) (hsw : swapsWith (.ListComp elt [⟨tg, iter, ifs, 0⟩] scope pos) (some (.Name y py)) spos.line X.env = pure true := by exact sw_true rfl rfl rfl (by decide +kernel))
    (hsub : ∀ j ∈ is, j ∈ own.map (·.2) := by decide) (hmw : En.me = none ∨ 0 ∉ own.map (·.2) := by first | exact .inl rfl | exact .inr (by decide)) (hs : ∀ x, foldedSetIterable iter X.env x = pure x := by intro _; rfl) (hme : En.me = none ∨ i ≠ 0 := by first | exact .inl rfl | exact .inr (by decide)) :
    VS X cl En W ro OB O (ins i O) (.Assign [.Name y py] (.ListComp elt [⟨tg, iter, ifs, 0⟩] scope pos) spos) (sSet i (eLc (own.map (·.2)) fi t tt fe)) :=
  PS.weak (ps_setLc (g := tG X cl En O is t) (tt := tT X cl En W0 O tt) (te := tV X cl En W0 O fe) hc hN hy hyl hsw hi ok (fun s H C cc fp => hg s H C cc fp) (fun s H C cc fp => ht s H C cc fp) (fun s H C cc fp => he s H C cc fp) hs) fun E σ H ⟨s, F, S, p⟩ =>
    tLc_V (K := X.K) X rfl hsub hmw σ H (fun x H1 => gName i x σ H1 E.nx) ⟨s, F, S, PstS.lift S p fun d _ q a o F' H' e h1 h2 h3 h4 => q _ F' H' e.f
    ((S.grow e).take hme (fun j hj => mem_ins.mp hj) (fun j hj => .inr (mem_ins.mpr (.inr hj))) (mem_ins.mpr (.inl rfl)) h2 h3 (S.ent.h.free h1) h4 fun j hj z hz w => by
      obtain ⟨b, u, g1, g2, g3, g4, g5⟩ := S.own j z hj hz
      rw [g1] at w
      cases w
      rw [h1] at g2
      cases g2)⟩
end
/-! ### methods of an owned list -/
/-- what a method does to the content -/
def sMut (i : Nat) (g : List D → List D → R (List D)) (fa : Sl → R (List D)) : S1 := fun s => match s[i]? with
  | some (some (.lst l)) => lift (fa s) s fun ds => (match g l ds with | .ok l' => .nx (s.set i (some (.lst l'))) | _ => .bad)
  | _ => .bad
def MutOk (K : PySem.W.Frag) (cl : Ctx) (r : V → List V → Hp → VK → Prop) (g : List D → List D → R (List D)) : Prop :=
  ∀ (F H : Hp) (a : Addr) (us vs : List V) (l l' : List D) (ds : List D) (Q : VK), Same F H → H a = some (.lst us) → F a = none → RpA K cl F us l → RpA K cl F vs ds → g l ds = .ok l' → (∀ us', RpA K cl F us' l' → Q .non (upd H a (.lst us'))) → r (.ref a) vs H Q
section
variable {X : Cx} {cl : Ctx} {En : Ety} {W : WX} {ro : Bool} {OB O : List Nat} {e : Expr} {es : List Expr} {fa : Sl → R (List D)} {x name : Str} {apos cpos p pos : Pos} {T id : String} {r : V → List V → Hp → VK → Prop} {g : List D → List D → R (List D)}
theorem sMut_lst {F : Hp} {O' : List Nat} {E : Ends} {i : Nat} {s : Sl} (q : PstS X cl En W ro OB O' F E (sMut i g fa s)) : ∃ l, s[i]? = some (some (.lst l)) ∧ PstS X cl En W ro OB O' F E (lift (fa s) s fun ds => (match g l ds with | .ok l' => .nx (s.set i (some (.lst l'))) | _ => .bad)) := by
  unfold sMut at q
  cases hsi : s[i]? with
  | none => rw [hsi] at q; exact q.elim
  | some u =>
    cases u with
    | none => rw [hsi] at q; exact q.elim
    | some d =>
      rw [hsi] at q
      cases d with
      | lst l => exact ⟨l, rfl, q⟩
      | _ => exact q.elim
theorem tyV_list {K : PySem.W.Frag} {H : Hp} {a : Addr} {vs : List V} (h : H a = some (.lst vs)) : tyV K "list" (.ref a) H := .inl ⟨rfl, vs, .inl (.inl h)⟩
theorem vs_mut (i : Nat) (hr : MutOk X.K cl r g) (slot : Slot "list" name id) (hty : typeOf (.builtin id) = pure (.type "method_descriptor")) (hm : MtR X id r) (ha : VA X cl En W O (e :: es) fa)
    (hi : i ∈ O := by decide) (hN : X.N[i]? = some x := by rfl) (hv : Vis X.env.scope x := by first | exact Or.inl rfl | exact Or.inr (Or.inl rfl) | exact Or.inr (Or.inr rfl)) (hd : (x == ("__debug__" : Str)) = false := by decide)
    (hcd : (x == ("__classdict__" : Str)) = false := by decide)
    (hbase : attributeBase (.Name x p) name X.env (eval (.Name x p) X.env) = eval (.Name x p) X.env := by rfl)
    (hfew : ((backTo cpos (starEach (e :: es) X.env)).all (fun x => !x.1) && (backToKw cpos (keywordEach [] X.env)).all (fun x => x.1.isSome)
      && decide ((e :: es).length + ([] : List Keyword).length + (if ([] : List Keyword).isEmpty then 0 else 1) < 30)) = true := by rfl)
    (hline : (apos.endLine == cpos.line) = true := by rfl) (hs : starEach (e :: es) X.env = (false, eval e X.env) :: starEach es X.env := by rfl) (hplain : (backTo cpos (starEach es X.env)).any (·.1) = false := by rfl)
    (hsw : swapsWith (.Call (.Attribute (.Name x p) name apos) (e :: es) [] cpos) none pos.line X.env = pure false := by rfl) :
    VS X cl En W ro OB O O (.Expr (.Call (.Attribute (.Name x p) name apos) (e :: es) [] cpos) pos) (sMut i g fa) :=
  PS.weak (ps_expr (pe_bm PySem.F.plainAttrs_list slot hty hm (pe_var hN hv hd hcd) ha hbase hfew hline hs hplain) hsw) fun E σ H ⟨s, F, S, q⟩ => by
    obtain ⟨l, hsi, q⟩ := sMut_lst q
    obtain ⟨a, o, h1, h2, h3, h4, h5⟩ := S.own i _ hi hsi
    cases h5 with
    | @lst us _ ru =>
      refine ⟨.ref a, h1, tyV_list h2, s, F, S, PstS.lift S q fun ds hds p1 vs F1 H1 e1 r1 => ?_⟩
      cases q2 : g l ds with
      | exc c fs => rw [q2] at p1; exact p1.elim
      | bad => rw [q2] at p1; exact p1.elim
      | ok l' =>
        rw [q2] at p1
        have S1 := S.grow e1
        have hF := e1.fr _ (by rw [h2]; simp) h3
        exact hr F1 H1 a us vs l l' ds _ e1.fh (e1.h _ _ h2) hF (ru.mono e1.f) r1 q2 fun us' ho' => p1 σ F1 _ e1.f (S1.change hi hsi h1 hF h4 (.lst ho'))
theorem vs_mut0 (i : Nat) (hr : MutOk X.K cl r g) (slot : Slot "list" name id) (hty : typeOf (.builtin id) = pure (.type "method_descriptor")) (hm : MtR X id r)
    (hi : i ∈ O := by decide) (hN : X.N[i]? = some x := by rfl) (hv : Vis X.env.scope x := by first | exact Or.inl rfl | exact Or.inr (Or.inl rfl) | exact Or.inr (Or.inr rfl)) (hd : (x == ("__debug__" : Str)) = false := by decide)
    (hcd : (x == ("__classdict__" : Str)) = false := by decide)
    (hbase : attributeBase (.Name x p) name X.env (eval (.Name x p) X.env) = eval (.Name x p) X.env := by rfl)
    (hline : (apos.endLine == cpos.line) = true := by rfl)
    (hsw : swapsWith (.Call (.Attribute (.Name x p) name apos) [] [] cpos) none pos.line X.env = pure false := by rfl) :
    VS X cl En W ro OB O O (.Expr (.Call (.Attribute (.Name x p) name apos) [] [] cpos) pos) (sMut i g aN) :=
  PS.weak (ps_expr (pe_bm0 PySem.F.plainAttrs_list slot hty hm (pe_var hN hv hd hcd) hbase hline) hsw) fun E σ H ⟨s, F, S, q⟩ => by
    obtain ⟨l, hsi, q⟩ := sMut_lst q
    obtain ⟨a, o, h1, h2, h3, h4, h5⟩ := S.own i _ hi hsi
    cases h5 with
    | @lst us _ ru =>
      refine ⟨.ref a, h1, tyV_list h2, ?_⟩
      have p1 : PstS X cl En W ro OB O F E (match g l [] with | .ok l' => .nx (s.set i (some (.lst l'))) | _ => .bad) := q
      cases q2 : g l [] with
      | exc c fs => rw [q2] at p1; exact p1.elim
      | bad => rw [q2] at p1; exact p1.elim
      | ok l' =>
        rw [q2] at p1
        exact hr F H a us [] l l' [] _ S.fh h2 h3 ru .nil q2 fun us' ho' => p1 σ F _ (Same.refl F) (S.change hi hsi h1 h3 h4 (.lst ho'))
end
def appL : List D → List D → R (List D) := fun l ds => match ds with | [d] => if l.length < lim then .ok (l ++ [d]) else .bad | _ => .bad
def extL : List D → List D → R (List D) := fun l ds => match ds with | [.lst m] => if l.length + m.length ≤ lim then .ok (l ++ m) else .bad | _ => .bad
def revL : List D → List D → R (List D) := fun l ds => match ds with | [] => .ok l.reverse | _ => .bad
theorem mut_app {K : PySem.W.Frag} {cl : Ctx} : MutOk K cl rAppend appL := by
  intro F H a us vs l l' ds Q sm ha hF ru rv hg q
  unfold appL at hg
  split at hg
  · split at hg
    · rename_i hl
      cases hg
      cases rv with
      | cons r1 r2 =>
        cases r2
        exact ⟨a, us, _, rfl, rfl, ha, by rw [ru.length]; exact Nat.lt_of_lt_of_le hl lim_le, q _ (ru.append (.one r1))⟩
    · cases hg
  · cases hg
theorem mut_ext {K : PySem.W.Frag} {cl : Ctx} : MutOk K cl rExtend extL := by
  intro F H a us vs l l' ds Q sm ha hF ru rv hg q
  unfold extL at hg
  split at hg
  · split at hg
    · rename_i hl
      cases hg
      cases rv with
      | cons r1 r2 =>
        cases r2
        cases r1 with
        | lst hb rb => exact ⟨a, _, us, _, rfl, rfl, ha, sm _ _ hb, by rw [ru.length, rb.length]; exact Nat.le_trans hl lim_le, q _ (ru.append rb)⟩
    · cases hg
  · cases hg
theorem mut_rev {K : PySem.W.Frag} {cl : Ctx} : MutOk K cl rReverse revL := by
  intro F H a us vs l l' ds Q sm ha hF ru rv hg q
  unfold revL at hg
  split at hg
  · cases hg
    cases rv
    exact ⟨a, us, rfl, rfl, ha, q _ ru.reverse⟩
  · cases hg
end VS
namespace VS
open PySem PySem.Spec PyProof.Rows L2
/-! ### making objects -/
def putG (f : String) (d : D) : List (String × D) → List (String × D)
  | [] => [(f, d)]
  | (k, x) :: r => if k = f then (f, d) :: r else (k, x) :: putG f d r
section
variable {K : PySem.W.Frag} {cl : Ctx} {F : Hp}
theorem RpF.length : ∀ {fs : List (Str × V)} {gs : List (String × D)}, RpF K cl F fs gs → fs.length = gs.length
  | _, _, .nil => rfl
  | _, _, .cons _ r => by simp [RpF.length r]
theorem RpF.put {v : V} {d : D} {f : String} (h : Rp K cl F v d) : ∀ {fs : List (Str × V)} {gs : List (String × D)}, RpF K cl F fs gs → RpF K cl F (putF (Str.ofString f) v fs) (putG f d gs)
  | _, _, .nil => .cons h .nil
  | _, _, .cons (f := k) (v := v') (d := d') (vs := vs) (ds := ds) r q => by
    by_cases e : k = f
    · subst e
      have h1 : putF (Str.ofString k) v ((Str.ofString k, v') :: vs) = (Str.ofString k, v) :: vs := by
        show (if Str.ofString k = Str.ofString k then _ else _) = _
        rw [if_pos rfl]
      have h2 : putG k d ((k, d') :: ds) = (k, d) :: ds := by
        show (if k = k then _ else _) = _
        rw [if_pos rfl]
      rw [h1, h2]
      exact .cons h q
    · have h1 : putF (Str.ofString f) v ((Str.ofString k, v') :: vs) = (Str.ofString k, v') :: putF (Str.ofString f) v vs := by
        show (if Str.ofString k = Str.ofString f then _ else _) = _
        rw [if_neg fun z => e (ofString_inj z)]
      have h2 : putG f d ((k, d') :: ds) = (k, d') :: putG f d ds := by
        show (if k = f then _ else _) = _
        rw [if_neg e]
      rw [h1, h2]
      exact .cons r (RpF.put h q)
end
def del (H : Hp) (a : Addr) : Hp := fun b => if b = a then none else H b
theorem del_ne {H : Hp} {a b : Addr} (h : b ≠ a) : del H a b = H b := if_neg h
theorem del_same {H : Hp} {a : Addr} : del H a a = none := if_pos rfl
section
variable (K : PySem.W.Frag) (cl : Ctx)
/-- an __init__ that makes of the arguments ds the content Fi ds -/
def spI (C : Addr) (n : Nat) (Fi : List D → R D) : Sp := fun vs H Q E => ∃ F0 ds x dx ws, vs = .ref x :: ws ∧ Same F0 (del H x) ∧ F0 x = none ∧ H x = some (.ins C dx []) ∧ RpA K cl F0 ws ds ∧ ds.length + 1 = n ∧ match Fi ds with
  | .ok d => ∀ o F' H', Ent F0 (del H x) F' H' → H' x = some o → F' x = none → Cell K cl F' x o d → Q .non H'
  | .exc c fs => ∀ C e F' H', Ent F0 (del H x) F' H' → ExRp K cl F' H' c fs C e → E C e H'
  | .bad => False
end
def slotD (s : Sl) (i : Nat) : R D := match s[i]? with | some (some d) => .ok d | _ => .bad
def outI : Out → R D
  | .rt .non => .bad
  | .nx s => slotD s 0
  | .ex c fs _ => .exc c fs
  | _ => .bad
def dInit (c : String) (N : Nat) (b : S1) : List D → R D := fun ds => outI (b (startD N (.ins c [] :: ds)))
section
variable {P : Program} {w : World} {K : PySem.W.Frag} {mg : Str → Option Value} {base : Heap} {cl : Ctx}
theorem sl_startI {N : List Str} {F0 H : Hp} {ws : List V} {ds : List D} {x C dx : Addr} {c : String} (hcl : cl c = some C) (sm : Same F0 (del H x)) (hF : F0 x = none) (hx : H x = some (.ins C dx [])) (r : RpA K cl F0 ws ds) :
    SlOk K cl ⟨F0, del H x, some x⟩ [0] (startD N.length (.ins c [] :: ds)) (L2.start N (.ref x :: ws)) F0 H := by
  have fh : Same F0 H := fun b o e => by
    have := sm b o e
    unfold del at this
    split at this
    · cases this
    · exact this
  have dh : Same (del H x) H := fun b o e => by
    unfold del at e
    split at e
    · cases e
    · exact e
  have hs : ∀ {i : Nat} {d : D}, (startD N.length (.ins c [] :: ds))[i]? = some (some d) → (.ins c [] :: ds)[i]? = some d ∧ i < ds.length + 1 := fun {i d} h => by
    unfold startD at h
    have hi : i < (D.ins c [] :: ds).length := by
      by_cases hi : i < (D.ins c [] :: ds).length
      · exact hi
      · rw [List.getElem?_append_right (by simpa using hi), List.getElem?_replicate] at h
        split at h <;> cases h
    rw [List.getElem?_append_left (by simpa using hi), List.getElem?_map] at h
    cases q : (D.ins c [] :: ds)[i]? with
    | none => rw [q] at h; cases h
    | some d' => rw [q] at h; cases h; exact ⟨rfl, by simpa using hi⟩
  have h0 : (L2.start N (.ref x :: ws))[0]? = some (some (.ref x)) := rfl
  refine ⟨?_, fun i d hi h => ?_, fun i d hi h => ?_, fun i j d e a hi hj h1 h2 _ _ => ?_, ⟨Same.refl _, fh, dh, fun _ _ n => n⟩, fun y hy => by cases hy; rfl⟩
  · unfold startD L2.start
    simp [r.length]
  · obtain ⟨q1, q2⟩ := hs h
    cases i with
    | zero => exact absurd (by simp) hi
    | succ i =>
      obtain ⟨v, g1, g2⟩ := r.get (i := i) (by simpa using q1)
      have hv : i < ws.length := by rw [r.length]; omega
      refine ⟨v, ?_, g2⟩
      unfold L2.start
      rw [List.getElem?_append_left (by simp; omega), List.getElem?_map]
      simp [g1]
  · have e0 : i = 0 := by simpa using hi
    subst e0
    obtain ⟨q1, q2⟩ := hs h
    simp at q1
    subst q1
    exact ⟨x, _, h0, hx, hF, del_same, .ins hcl .nil⟩
  · have e0 : i = 0 := by simpa using hi
    have e1 : j = 0 := by simpa using hj
    rw [e0, e1]
/-- THE RULE for an __init__ -/
theorem fn_i {x qual : Str} {st : Stmt} {f C : Addr} {c : String} {fd : FuncData} {N ps : List Str} {k : Nat} {b : S1} {O' : List Nat} (hcl : cl c = some C) (F : Fun K x qual st f fd) (S : FnScope N ps (defScope st)) (h0 : 0 ∈ O')
    (hbody : ∀ (cdv : Value) (A : Around) (outer : List Env) (s : Shared) (H : Hp) (E : XK) (F0 : Hp) (x : Addr), Room k (A.deeper (envOfC qual (defScope st) s.heap.objs.size f cdv)) →
      VSs (cxOf (L2.CX P w) P w K mg base N qual (defScope st) f cdv A outer s H E) cl ⟨F0, del H x, some x⟩ (fun cls d _ H => E cls d H) true [] [0] O' (defBody st) b) :
    FnOk P w K mg base (L2.CX P w) (k + 1) f fd ps (spI K cl C ps.length (dInit c N.length b)) := by
  refine F.okX S (fun vs H Q E ⟨F0, ds, x, dx, ws, h1, h2, h3, h4, h5, h6, h7⟩ => by rw [h1]; simp [h5.length, h6]) (fun cdv A outer s H vs Q E hr ⟨F0, ds, x, dx, ws, h1, h2, h3, h4, h5, h6, h7⟩ => ?_)
  subst h1
  refine ⟨_, hbody cdv A outer s H E F0 x hr, startD N.length (.ins c [] :: ds), F0, sl_startI hcl h2 h3 h4 h5, ?_⟩
  unfold dInit at h7
  cases q : b (startD N.length (.ins c [] :: ds)) with
  | nx s' =>
    rw [q] at h7
    intro σ' F' H' e S'
    have h7 : match slotD s' 0 with | .ok d => ∀ o F' H', Ent F0 (del H x) F' H' → H' x = some o → F' x = none → Cell K cl F' x o d → Q .non H' | .exc c fs => ∀ C e F' H', Ent F0 (del H x) F' H' → ExRp K cl F' H' c fs C e → E C e H' | .bad => False := h7
    unfold slotD at h7
    cases hs : s'[0]? with
    | none => rw [hs] at h7; exact h7.elim
    | some u =>
      cases u with
      | none => rw [hs] at h7; exact h7.elim
      | some d =>
        rw [hs] at h7
        obtain ⟨a, o, g1, g2, g3, g4, g5⟩ := S'.own 0 d h0 hs
        rw [S'.me x rfl] at g1
        cases g1
        exact h7 o F' H' S'.ent g2 g3 g5
  | rt d => rw [q] at h7; cases d <;> exact h7.elim
  | bk s => rw [q] at h7; exact h7.elim
  | ct s => rw [q] at h7; exact h7.elim
  | ex c fs s => rw [q] at h7; exact fun C e σ' F' H' sm S' r => h7 C e F' H' S'.ent r
  | bad => rw [q] at h7; exact h7.elim
end
/-- C(e, ..) -/
def eMake (Fi : List D → R D) (dd : List D) (fa : Sl → R (List D)) : Sl → R D := fun s => (fa s).bind fun ds => Fi (ds ++ dd)
/-- self.f = e -/
def sFldD (i : Nat) (f : String) (fe : Sl → R D) : S1 := fun s => lift (fe s) s fun d => match s[i]? with
  | some (some (.ins c gs)) => if gs.length < 1000 then .nx (s.set i (some (.ins c (putG f d gs)))) else .bad
  | _ => .bad
def sFldC (i : Nat) (c fn : String) (f : Sl → R D) : S1 := fun s => match s[i]? with | some (some (.ins c' _)) => if c' = c then sFldD i fn f s else .bad | _ => .bad
section
variable {X : Cx} {cl : Ctx} {En : Ety} {W : WX} {ro : Bool} {OB O : List Nat} {e : Expr} {es : List Expr} {f : Sl → R D} {fa : Sl → R (List D)} {p pos pos' : Pos} {x : Str}
  {k : Nat} {fx C : Addr} {fd : FuncData} {ps : List Str} {Fi : List D → R D} {n : Nat} {ds : List Value} {dvs : List V} {dd : List D}
theorem vs_fld (i : Nat) {fn c : String} (hcl : cl c = some C) (hC : Cls X.K C) (hno : NoAttr X.K C (Str.ofString fn)) (h : VE X cl En W O e f) (hi : i ∈ O := by decide)
    (hN : X.N[i]? = some x := by rfl) (hv : Vis X.env.scope x := by first | exact Or.inl rfl | exact Or.inr (Or.inl rfl) | exact Or.inr (Or.inr rfl)) (hd : (x == ("__debug__" : Str)) = false := by decide)
    (hcd : (x == ("__classdict__" : Str)) = false := by decide) (hs : swapsWith e (some (.Attribute (.Name x p) (Str.ofString fn) pos')) pos.line X.env = pure false := by rfl) :
    VS X cl En W ro OB O O (.Assign [.Attribute (.Name x p) (Str.ofString fn) pos'] e pos) (sFldC i c fn f) :=
  PS.weak (ps_fld (pe_var hN hv hd hcd) h hs) fun E σ H ⟨s, F, S, q⟩ => by
    unfold sFldC at q
    cases hsi : s[i]? with
    | none => rw [hsi] at q; exact q.elim
    | some u =>
      cases u with
      | none => rw [hsi] at q; exact q.elim
      | some d =>
        cases d <;> first | (rw [hsi] at q; exact q.elim) | skip
        rename_i c' gs
        rw [hsi] at q
        have q : PstS X cl En W ro OB O F E (if c' = c then sFldD i fn f s else .bad) := q
        by_cases hcc : c' = c
        · subst hcc
          rw [if_pos rfl] at q
          unfold sFldD at q
          refine ⟨s, F, S, PstS.lift S q fun d' _ q1 v F1 H1 e1 r1 => ?_⟩
          rw [hsi] at q1
          have q1 : PstS X cl En W ro OB O F E (if gs.length < 1000 then .nx (s.set i (some (.ins c' (putG fn d' gs)))) else .bad) := q1
          have S1 := S.grow e1
          obtain ⟨a, o, h1, h2, h3, h4, h5⟩ := S1.own i _ hi hsi
          cases h5 with
          | @ins C' dx _ fs _ g1 g2 =>
            rw [hcl] at g1
            cases g1
            by_cases hl : gs.length < 1000
            · rw [if_pos hl] at q1
              exact ⟨_, h1, a, C, dx, fs, rfl, h2, hC, hno, by rw [g2.length]; exact hl, q1 σ F1 _ e1.f (S1.change hi hsi h1 h3 h4 (.ins hcl (g2.put r1)))⟩
            · rw [if_neg hl] at q1; exact q1.elim
        · rw [if_neg hcc] at q; exact q.elim
theorem vo_make {c : String} {E : XK} (hW : W = fun cls d _ H => E cls d H) (tk : Takes X W) (M : Mk X.K C fx) (G : FnOk X.prog X.w X.K X.mg X.base (L2.CX X.prog X.w) k fx fd ps (spI X.K cl C n Fi)) (hr : Room (k + 1) X.A) (hm : X.mg x = some (.ref C)) (hb : Binds X.K fd ps ds) (hd : Vals dvs ds) (hdd : ∀ F, RpA X.K cl F dvs dd)
    (ha : VA X cl En W O (e :: es) fa) (hl : ∀ s ds, fa s = .ok ds → (ds ++ dd).length + 1 = n) (hg : Gl X x := by rfl) (hdb : (x == ("__debug__" : Str)) = false := by decide) (he : starEach (e :: es) X.env = (false, eval e X.env) :: starEach es X.env := by rfl) (hpl : (backTo pos (starEach es X.env)).any (·.1) = false := by rfl) :
    VO X cl En W O (.Call (.Name x p) (e :: es) [] pos) (eMake Fi dd fa) :=
  PE.weak (pe_make (E := E) (dvs := dvs) M G hr hg hm hb hd (passes_call tk (fun cls d σ H h => by rw [hW]; exact h)) ha hdb he hpl) fun σ H Q ⟨s, F, S, q⟩ => ⟨s, F, S, q.bind fun ds hds p1 vs F1 H1 e1 r1 x' dx nx ndx nex => by
    have sm : Same H1 (upd (upd H1 dx (.own x')) x' (.ins C dx [])) := fun b o e => by rw [upd_ne (ne_of_none e nx), upd_ne (ne_of_none e ndx)]; exact e
    have smd : Same H1 (del (upd (upd H1 dx (.own x')) x' (.ins C dx [])) x') := fun b o e => by rw [del_ne (ne_of_none e nx)]; exact sm b o e
    have hF : F1 x' = none := e1.fh.free nx
    have fr : ∀ a, H1 a ≠ none → del (upd (upd H1 dx (.own x')) x' (.ins C dx [])) x' a ≠ none := fun a ha => Same.ne smd ha
    refine ⟨F1, ds ++ dd, x', dx, vs ++ dvs, rfl, e1.fh.trans smd, hF, upd_same, r1.append (hdd F1), hl s ds hds, ?_⟩
    cases q2 : Fi (ds ++ dd) with
    | ok d =>
      rw [q2] at p1
      intro o F' H' en g1 g2 g3
      exact ⟨rfl, p1 x' o F' H' (e1.trans ⟨en.f, en.fh, smd.trans en.h, fun a n1 n2 => en.fr a (fr a n1) n2⟩) (e1.h.free nx) g1 g2 g3⟩
    | exc c fs =>
      rw [q2] at p1
      intro C' ea F' H' en g
      have := p1 C' ea F' H' (e1.trans ⟨en.f, en.fh, smd.trans en.h, fun a n1 n2 => en.fr a (fr a n1) n2⟩) g
      rw [hW] at this
      exact this
    | bad => rw [q2] at p1; exact p1.elim⟩
end
end VS
namespace VS
open PySem PySem.Spec PyProof.Rows L2
/-! ### isinstance of built-in types -/
def tyD : D → Option String
  | .non => some "NoneType" | .bl _ => some "bool" | .int _ => some "int" | .str _ => some "str" | .tup _ => some "tuple" | .lst _ => some "list" | _ => none
def isB (t T : String) : Bool := t == T || (t == "bool" && T == "int")
def isi1 (T : String) : D → R D := fun d => match tyD d with | some t => .ok (.bl (isB t T)) | none => .bad
def isi2 (T U : String) : D → R D := fun d => match tyD d with | some t => .ok (.bl (isB t T || isB t U)) | none => .bad
def tyList : List String := ["NoneType", "bool", "int", "str", "tuple", "list", "dict"]
theorem kit_all : (tyList.all fun t => ["bool", "int", "str", "tuple", "list", "dict"].all fun T => decide (kitB t T = some (isB t T))) = true := by decide +kernel
theorem tyD_mem {d : D} {t : String} (h : tyD d = some t) : t ∈ tyList := by
  cases d <;> simp only [tyD] at h <;> first | (cases h; decide) | cases h
theorem kit_of_all {t T : String} {d : D} (h : tyD d = some t) (hT : T ∈ ["bool", "int", "str", "tuple", "list", "dict"]) : kitB t T = some (isB t T) :=
  of_decide_eq_true (List.all_eq_true.mp (List.all_eq_true.mp kit_all t (tyD_mem h)) T hT)
theorem nox_isi1 {T} : NoX1 (isi1 T) := fun x c fs h => by unfold isi1 at h; split at h <;> cases h
theorem nox_isi2 {T U} : NoX1 (isi2 T U) := fun x c fs h => by unfold isi2 at h; split at h <;> cases h
section
variable {X : Cx} {cl : Ctx} {En : Ety} {W : WX} {O : List Nat} {e : Expr} {f : Sl → R D} {p p1 p2 p3 pos : Pos} {F H : Hp} {K : PySem.W.Frag}
theorem RpB.ty {v : V} {d : D} {t : String} (sm : Same F H) (r : RpB K cl F H v d) (h : tyD d = some t) : TyX K H v (.type t) := by
  cases d with
  | non => cases r.non; cases h; exact .base .non
  | bl b => cases r.bl; cases h; exact .base (.bl b)
  | int i => cases r.int; cases h; exact .base (.int i)
  | str x => cases r.str; cases h; exact .base (.str x)
  | tup l =>
    obtain ⟨a, vs, rfl, h1, _⟩ := r.tup
    cases h
    rcases Same.sqt sm h1 with (g | ⟨o, g⟩) | ⟨o, its, n, g1, g2, _⟩
    · exact .base (.tup g)
    · exact .fTuple g
    · exact .kTuple g1 g2
  | lst l =>
    obtain ⟨a, vs, rfl, h1, _⟩ := r.lst sm
    cases h
    exact .base (.lst h1)
  | dct l => cases h
  | scr l => cases h
  | ins c fs => cases h
theorem ve_isi1 {x : Str} {tn : String} (hm : X.mg "isinstance" = none) (ha : VB X cl En W O e f) (hmT : X.mg x = none) (hT : bootBuiltins x = some (.type tn)) (hmem : tn ∈ ["bool", "int", "str", "tuple", "list", "dict"]) (hx : PE X (.Name x p1) (tC (.ty tn))) (hg : Gl X "isinstance" := by rfl)
    (he : starEach [e, .Name x p1] X.env = (false, eval e X.env) :: starEach [.Name x p1] X.env := by rfl) (he2 : starEach [.Name x p1] X.env = (false, eval (.Name x p1) X.env) :: starEach [] X.env := by rfl) (hpl : (backTo pos (starEach [.Name x p1] X.env)).any (·.1) = false := by rfl) :
    VE X cl En W O (.Call (.Name "isinstance" p) [e, .Name x p1] [] pos) (e1 (isi1 tn) f) :=
  PE.weak (pe_callB call_isi hg hm (by decide +kernel) (pa_cons ha (pa_cons hx pa_nil he2) he) (by decide) (by decide) he hpl) fun σ H Q ⟨s, F, S, q⟩ => ⟨s, F, S, q.bind fun d _ p1 v F1 H1 e1 r1 => by
    unfold isi1 at p1
    cases hd : tyD d with
    | none => rw [hd] at p1; exact p1.elim
    | some t =>
      rw [hd] at p1
      exact ⟨v, .ty tn, .type t, .type tn, isB t tn, rfl, .ty tn, r1.ty e1.fh hd, kit_ty (kit_of_all hd hmem), p1 _ F1 H1 e1 (.bl _)⟩⟩
theorem ve_isi2 {x y : Str} {tn un : String} {k : Nat} (hm : X.mg "isinstance" = none) (ha : VB X cl En W O e f) (hmem : tn ∈ ["bool", "int", "str", "tuple", "list", "dict"]) (hmem2 : un ∈ ["bool", "int", "str", "tuple", "list", "dict"]) (hx : PE X (.Name x p1) (tC (.ty tn))) (hy : PE X (.Name y p2) (tC (.ty un))) (hg : Gl X "isinstance" := by rfl)
    (he : starEach [e, .Tuple [.Name x p1, .Name y p2] k p3] X.env = (false, eval e X.env) :: starEach [.Tuple [.Name x p1, .Name y p2] k p3] X.env := by rfl) (he2 : starEach [.Tuple [.Name x p1, .Name y p2] k p3] X.env = (false, eval (.Tuple [.Name x p1, .Name y p2] k p3) X.env) :: starEach [] X.env := by rfl)
    (he3 : starEach [.Name x p1, .Name y p2] X.env = (false, eval (.Name x p1) X.env) :: starEach [.Name y p2] X.env := by rfl) (he4 : starEach [.Name y p2] X.env = (false, eval (.Name y p2) X.env) :: starEach [] X.env := by rfl)
    (hpl : (backTo pos (starEach [.Tuple [.Name x p1, .Name y p2] k p3] X.env)).any (·.1) = false := by rfl) :
    VE X cl En W O (.Call (.Name "isinstance" p) [e, .Tuple [.Name x p1, .Name y p2] k p3] [] pos) (e1 (isi2 tn un) f) :=
  PE.weak (pe_callB call_isiT hg hm (by decide +kernel) (pa_cons ha (pa_cons (pe_tup (pa_cons hx (pa_cons hy pa_nil he4) he3)) pa_nil he2) he) (by decide) (by decide) he hpl) fun σ H Q ⟨s, F, S, q⟩ => ⟨s, F, S, q.bind fun d _ p1 v F1 H1 e1 r1 => by
    unfold isi2 at p1
    cases hd : tyD d with
    | none => rw [hd] at p1; exact p1.elim
    | some t =>
      rw [hd] at p1
      refine ⟨by show 2 ≤ sizeLine; decide, fun tp htp => ?_⟩
      have en := Ent.new e1.fh (o := .tup [V.ty tn, V.ty un]) htp
      refine ⟨v, tp, [.ty tn, .ty un], .type t, [.type tn, .type un], isB t tn || isB t un, rfl, upd_same, .cons (.ty tn) (.cons (.ty un) .nil), (r1.grow en).ty en.fh hd, ?_, p1 _ _ _ (e1.trans en) (.bl _)⟩
      show PySem.W.kitAny X.K (.type t) [.type tn, .type un] = _
      unfold PySem.W.kitAny
      rw [kit_ty (kit_of_all hd hmem)]
      cases isB t tn with
      | true => rfl
      | false =>
        unfold PySem.W.kitAny
        rw [kit_ty (kit_of_all hd hmem2)]
        cases isB t un <;> rfl⟩
end
/-! ### the law's end -/
def spLaw (K : PySem.W.Frag) : Sp := fun vs H Q _ => ∃ (a : Addr) (ns : List Int), vs = [.ref a] ∧ SqL K H a (ns.map V.int) ∧ ns.length ≤ 63 ∧ ∀ H', Q (.bl true) H'
theorem rpa_ints {K : PySem.W.Frag} {cl : Ctx} {F : Hp} : ∀ ns : List Int, RpA K cl F (ns.map V.int) (ns.map D.int)
  | [] => .nil
  | n :: ns => .cons (.int n) (rpa_ints ns)
theorem law_of {P : Program} {w : World} {K : PySem.W.Frag} {mg : Str → Option Value} {base : Heap} {CX : CXT} {k : Nat} {f : Addr} {fd : FuncData} {ps : List Str} {cl : Ctx} {Fd : List D → R D}
    (G : FnOk P w K mg base CX k f fd ps (spV K cl 1 Fd)) (h : ∀ ns : List Int, ns.length ≤ 63 → Fd [.scr (ns.map D.int)] = .ok (.bl true)) : FnOk P w K mg base CX k f fd ps (spLaw K) :=
  G.imp fun vs H Q E ⟨a, ns, h1, h2, h3, h4⟩ => ⟨H, [.scr (ns.map D.int)], Same.refl H, by rw [h1]; exact .one (.scr h2 (rpa_ints ns)), rfl, by
    rw [h ns h3]
    intro v F' H' e r
    cases r
    exact h4 H'⟩
theorem walk_law {l : PySem.W.OpenLaw} {q : Program} {loose : List Str} {XP : (Str → Option Value) → Heap → Prop} {YP : World → Heap → Prop} {d : DefRec} {K : Params → PySem.W.Frag} {k : Nat} (hn : l.most = some 63) (hdf : d.params.defaults = []) (hk : Room k callerA)
    (hY : ∀ (w : World) (h : Heap), YP w h → (K w.params).In h)
    (F : ∀ (w : World) (mg : Str → Option Value) (fa : Addr) (h : Heap), (K w.params).In h → h.Ns mainGlobals mg → mg d.name = some (.ref fa) →
      ∃ fd : FuncData, (∀ (s : Shared) (u : Value), BindsTo s fd ⟨[u], []⟩ [("_law_script", u)]) ∧ ∀ base : Heap, (K w.params).In base → base.Ns mainGlobals mg → FnOk l.prog w (K w.params) mg base (L2.CX l.prog w) k fa fd ["_law_script"] (spLaw (K w.params))) :
    PySem.W.WalkO q loose XP YP l.row.toRowW d [] (fun f vs => PySem.call f vs) :=
  L2.walk_of (n := 63) (k := k) (x := "_law_script") (CX := fun w => L2.CX l.prog w) (sp := fun w => spLaw (K w.params)) hn (by decide) hdf hk hY F (fun _ _ a ns hl _ hS => ⟨a, ns, rfl, hS, hl, fun _ => rfl⟩) fun w H s e s' h => by
    obtain ⟨_, _, _, _, _, _, _, _, _, _, _, _, z⟩ := h
    exact z.elim
end VS
namespace VS
open PySem PySem.Spec PyProof.Rows L2
/-! ### the same with the owners written out (for printed proofs) -/
section
variable {X : Cx} {cl : Ctx} {En : Ety} {W : WX} {ro : Bool} {OB O O' O1 : List Nat} {e c : Expr} {st : Stmt} {sts r : List Stmt} {f : Sl → R D} {g : S1} {pos : Pos}
theorem w_set {i : Nat} {x : Str} {p' : Pos} (hN : X.N.Nodup) (h : VE X cl En W O e f) (hO : O.filter (· ≠ i) = O' := by decide) (hi : X.N[i]? = some x := by rfl) (hx : Loc X.env.scope x := by first | exact Or.inl rfl | exact Or.inr rfl) (hs : swapsWith e (some (.Name x p')) pos.line X.env = pure false := by rfl)
    (hf : X.fn x = true ∨ X.env.scope.names.lookup x = some .local := by first | exact .inl rfl | exact .inr rfl | assumption) (hme : En.me = none ∨ i ≠ 0 := by first | exact .inl rfl | exact .inr (by decide)) : VS X cl En W ro OB O O' (.Assign [.Name x p'] e pos) (sSet i f) := hO ▸ vs_set hN h hi hx hs hf hme
theorem w_setO {i : Nat} {x : Str} {p' : Pos} (hN : X.N.Nodup) (h : VO X cl En W O e f) (hO : ins i O = O' := by decide) (hi : X.N[i]? = some x := by rfl) (hx : Loc X.env.scope x := by first | exact Or.inl rfl | exact Or.inr rfl) (hs : swapsWith e (some (.Name x p')) pos.line X.env = pure false := by rfl)
    (hf : X.fn x = true ∨ X.env.scope.names.lookup x = some .local := by first | exact .inl rfl | exact .inr rfl | assumption) (hme : En.me = none ∨ i ≠ 0 := by first | exact .inl rfl | exact .inr (by decide)) : VS X cl En W ro OB O O' (.Assign [.Name x p'] e pos) (sSet i f) := hO ▸ vs_setO hN h hi hx hs hf hme
theorem w_frz (i : Nat) (h : VS X cl En W ro OB O1 O' st g) (hO : O.filter (· ≠ i) = O1 := by decide) : VS X cl En W ro OB O O' st g := vs_frz i (hO ▸ h)
theorem ws_frz (i : Nat) (h : VSs X cl En W ro OB O1 O' sts g) (hO : O.filter (· ≠ i) = O1 := by decide) : VSs X cl En W ro OB O O' sts g := vss_frz i (hO ▸ h)
theorem w_frzB (i : Nat) (h : VS X cl En W ro OB O O1 st g) (hO : O1.filter (· ≠ i) = O' := by decide) : VS X cl En W ro OB O O' st g := hO ▸ vs_frzB i h
theorem ws_frzB (i : Nat) (h : VSs X cl En W ro OB O O1 sts g) (hO : O1.filter (· ≠ i) = O' := by decide) : VSs X cl En W ro OB O O' sts g := hO ▸ vss_frzB i h
theorem PI.or {tg iter : Expr} {w1 w2 : TI} (h1 : PI X tg iter w1) (h2 : PI X tg iter w2) : PI X tg iter (fun σ H R => w1 σ H R ∨ w2 σ H R) := ⟨fun pins s σ H R I q => q.elim (h1.run pins s σ H R I) (h2.run pins s σ H R I)⟩
def seqD (d : D) : R (List D) := match d with | .lst ds => .ok ds | .tup ds => .ok ds | _ => .bad
def iSeq (f : Sl → R D) : Sl → R (List D) := fun s => (f s).bind seqD
/-- a list or a tuple -/
theorem vi_seq {tg : Expr} (h : VE X cl En W O e f) : VI X cl En W O tg e (iSeq f) := PI.weak (PI.or (vi_list (tg := tg) h) (vi_tup (tg := tg) h)) fun σ H R ⟨s, F, S, p⟩ => by
  unfold iSeq at p
  cases q : f s with
  | exc c fs => rw [q] at p; exact .inl ⟨s, F, S, by dsimp only; rw [q]; exact p⟩
  | bad => rw [q] at p; exact p.elim
  | ok d =>
    rw [q] at p
    have p : Pst X.K cl W σ F H (fun ds => ∀ J F' H', Ent F H F' H' → Wk X cl J F' ds → R J H') (seqD d) := p
    cases d with
    | lst l => exact .inl ⟨s, F, S, by dsimp only; rw [q]; exact p⟩
    | tup l => exact .inr ⟨s, F, S, by dsimp only; rw [q]; exact p⟩
    | _ => exact p.elim
def iRng1 (fa : Sl → R (List D)) : Sl → R (List D) := fun s => (fa s).bind rng1D
def iRng2 (fa : Sl → R (List D)) : Sl → R (List D) := fun s => (fa s).bind rng2D
def enumD : List D → R (List D) := fun ds => match ds with | [.lst l] => .ok (enumL 0 l) | _ => .bad
def iEnum (fa : Sl → R (List D)) : Sl → R (List D) := fun s => (fa s).bind enumD
theorem w_range1 {tg a : Expr} {p : Pos} {fa : Sl → R (List D)} (hm : X.mg "range" = none) (ha : VA X cl En W O [a] fa) (hg : Gl X "range" := by rfl) (he : starEach [a] X.env = [(false, eval a X.env)] := by rfl) : VI X cl En W O tg (.Call (.Name "range" p) [a] [] pos) (iRng1 fa) := vi_range1 hm ha hg he
theorem w_range2 {tg a b : Expr} {p : Pos} {fa : Sl → R (List D)} (hm : X.mg "range" = none) (ha : VA X cl En W O [a, b] fa) (hg : Gl X "range" := by rfl) (he : starEach [a, b] X.env = [(false, eval a X.env), (false, eval b X.env)] := by rfl) (he2 : starEach [b] X.env = [(false, eval b X.env)] := by rfl) :
    VI X cl En W O tg (.Call (.Name "range" p) [a, b] [] pos) (iRng2 fa) := vi_range2 hm ha hg he he2
theorem w_enum {p tpos : Pos} {a : Expr} {elts : List Expr} {kk : Nat} {fa : Sl → R (List D)} (hm : X.mg "enumerate" = none) (ha : VA X cl En W O [a] fa) (hg : Gl X "enumerate" := by rfl) (he : starEach [a] X.env = [(false, eval a X.env)] := by rfl) :
    VI X cl En W O (.Tuple elts kk tpos) (.Call (.Name "enumerate" p) [a] [] pos) (iEnum fa) := vi_enum hm ha hg he
/-- nothing is given by default -/
theorem rpa0 : ∀ F, RpA X.K cl F [] [] := fun _ => .nil
theorem w_call {es : List Expr} {fa : Sl → R (List D)} {p : Pos} {k n : Nat} {fx : Addr} {fd : FuncData} {ps : List Str} {Fd : List D → R D} {x : Str} (tk : Takes X W) (G : FnOk X.prog X.w X.K X.mg X.base (L2.CX X.prog X.w) k fx fd ps (spV X.K cl n Fd)) (hr : Room k X.A) (hm : X.mg x = some (.ref fx)) (hk : PySem.W.keepIn X.K (.ref fx) = true) (hb : Binds X.K fd ps [])
    (ha : VA X cl En W O (e :: es) fa) (hl : ALen fa n) (hg : Gl X x := by rfl) (hdb : (x == ("__debug__" : Str)) = false := by decide) (he : starEach (e :: es) X.env = (false, eval e X.env) :: starEach es X.env := by rfl) (hpl : (backTo pos (starEach es X.env)).any (·.1) = false := by rfl) :
    VE X cl En W O (.Call (.Name x p) (e :: es) [] pos) (eCall Fd [] fa) := ve_call (dvs := []) tk G hr hm hk hb .nil rpa0 ha (fun s ds h => by rw [List.append_nil]; exact hl s ds h) hg hdb he hpl
theorem w_callO {es : List Expr} {fa : Sl → R (List D)} {p : Pos} {k n : Nat} {fx : Addr} {fd : FuncData} {ps : List Str} {Fd : List D → R D} {x : Str} (tk : Takes X W) (G : FnOk X.prog X.w X.K X.mg X.base (L2.CX X.prog X.w) k fx fd ps (spO X.K cl n Fd)) (hr : Room k X.A) (hm : X.mg x = some (.ref fx)) (hk : PySem.W.keepIn X.K (.ref fx) = true) (hb : Binds X.K fd ps [])
    (ha : VA X cl En W O (e :: es) fa) (hl : ALen fa n) (hg : Gl X x := by rfl) (hdb : (x == ("__debug__" : Str)) = false := by decide) (he : starEach (e :: es) X.env = (false, eval e X.env) :: starEach es X.env := by rfl) (hpl : (backTo pos (starEach es X.env)).any (·.1) = false := by rfl) :
    VO X cl En W O (.Call (.Name x p) (e :: es) [] pos) (eCall Fd [] fa) := vo_call (dvs := []) tk G hr hm hk hb .nil rpa0 ha (fun s ds h => by rw [List.append_nil]; exact hl s ds h) hg hdb he hpl
theorem w_make {es : List Expr} {fa : Sl → R (List D)} {p : Pos} {k n : Nat} {fx C : Addr} {fd : FuncData} {ps : List Str} {Fi : List D → R D} {x : Str} {E : XK} (hW : W = fun cls d _ H => E cls d H) (tk : Takes X W) (M : Mk X.K C fx) (G : FnOk X.prog X.w X.K X.mg X.base (L2.CX X.prog X.w) k fx fd ps (spI X.K cl C (n + 1) Fi)) (hr : Room (k + 1) X.A) (hm : X.mg x = some (.ref C)) (hb : Binds X.K fd ps [])
    (ha : VA X cl En W O (e :: es) fa) (hl : ALen fa n) (hg : Gl X x := by rfl) (hdb : (x == ("__debug__" : Str)) = false := by decide) (he : starEach (e :: es) X.env = (false, eval e X.env) :: starEach es X.env := by rfl) (hpl : (backTo pos (starEach es X.env)).any (·.1) = false := by rfl) :
    VO X cl En W O (.Call (.Name x p) (e :: es) [] pos) (eMake Fi [] fa) := vo_make (c := "") (E := E) (dvs := []) hW tk M G hr hm hb .nil rpa0 ha (fun s ds h => by rw [List.append_nil, hl s ds h]) hg hdb he hpl
theorem w_meth {es : List Expr} {fa : Sl → R (List D)} {fo : Sl → R D} {o : Expr} {apos : Pos} {k n : Nat} {fx C : Addr} {fd : FuncData} {ps : List Str} {Fd : List D → R D} {c mn : String} {E : XK} {pl : Sem Bool} (hW : W = fun cls d _ H => E cls d H) (tk : Takes X W) (hcl : cl c = some C) (hC : Cls X.K C) (hM : Meth X.K C (Str.ofString mn) fx) (G : FnOk X.prog X.w X.K X.mg X.base (L2.CX X.prog X.w) k fx fd ps (spV X.K cl (n + 1) Fd)) (hr : Room k X.A)
    (hb : Binds X.K fd ps []) (ho : VE X cl En W O o fo) (ha : VA X cl En W O (e :: es) fa) (hl : ALen fa n)
    (he : starEach (e :: es) X.env = (false, eval e X.env) :: starEach es X.env := by rfl) (hpl : (backTo pos (starEach es X.env)).any (·.1) = false := by rfl)
    (ht : eval (.Call (.Attribute o (Str.ofString mn) apos) (e :: es) [] pos) X.env = (do
      let ov ← eval o X.env
      standAt apos.atName
      let (f, first) ← holding [ov] (getMethod ov (Str.ofString mn) pl)
      callWith pos f first (backTo pos (starEach (e :: es) X.env)) (backToKw pos (keywordEach [] X.env))) := by rfl) :
    VE X cl En W O (.Call (.Attribute o (Str.ofString mn) apos) (e :: es) [] pos) (eMeth c mn Fd [] fo fa) := ve_meth (E := E) (pl := pl) (dvs := []) hW tk hcl hC hM G hr hb .nil rpa0 ho ha (fun s ds h => by rw [List.append_nil, hl s ds h]) he hpl ht
theorem w_meth0 {fo : Sl → R D} {o : Expr} {apos : Pos} {k : Nat} {fx C : Addr} {fd : FuncData} {ps : List Str} {Fd : List D → R D} {c mn : String} {E : XK} {pl : Sem Bool} (hW : W = fun cls d _ H => E cls d H) (tk : Takes X W) (hcl : cl c = some C) (hC : Cls X.K C) (hM : Meth X.K C (Str.ofString mn) fx) (G : FnOk X.prog X.w X.K X.mg X.base (L2.CX X.prog X.w) k fx fd ps (spV X.K cl 1 Fd)) (hr : Room k X.A)
    (hb : Binds X.K fd ps []) (ho : VE X cl En W O o fo)
    (ht : eval (.Call (.Attribute o (Str.ofString mn) apos) [] [] pos) X.env = (do
      let ov ← eval o X.env
      standAt apos.atName
      let (f, first) ← holding [ov] (getMethod ov (Str.ofString mn) pl)
      callWith pos f first (backTo pos (starEach [] X.env)) (backToKw pos (keywordEach [] X.env))) := by rfl) :
    VE X cl En W O (.Call (.Attribute o (Str.ofString mn) apos) [] [] pos) (eMeth c mn Fd [] fo aN) := ve_meth0 (E := E) (pl := pl) (dvs := []) hW tk hcl hC hM G hr hb .nil rpa0 ho rfl ht
theorem w_append (i : Nat) {x : Str} {apos cpos p : Pos} {fa : Sl → R (List D)} (ha : VA X cl En W O [e] fa) (hi : i ∈ O := by decide) (hN : X.N[i]? = some x := by rfl) (hv : Vis X.env.scope x := by first | exact Or.inl rfl | exact Or.inr (Or.inl rfl) | exact Or.inr (Or.inr rfl)) (hd : (x == ("__debug__" : Str)) = false := by decide)
    (hcd : (x == ("__classdict__" : Str)) = false := by decide)
    (hbase : attributeBase (.Name x p) "append" X.env (eval (.Name x p) X.env) = eval (.Name x p) X.env := by rfl)
    (hfew : ((backTo cpos (starEach [e] X.env)).all (fun x => !x.1) && (backToKw cpos (keywordEach [] X.env)).all (fun x => x.1.isSome)
      && decide ([e].length + ([] : List Keyword).length + (if ([] : List Keyword).isEmpty then 0 else 1) < 30)) = true := by rfl)
    (hline : (apos.endLine == cpos.line) = true := by rfl) (hs : starEach [e] X.env = (false, eval e X.env) :: starEach [] X.env := by rfl) (hplain : (backTo cpos (starEach [] X.env)).any (·.1) = false := by rfl)
    (hsw : swapsWith (.Call (.Attribute (.Name x p) "append" apos) [e] [] cpos) none pos.line X.env = pure false := by rfl) :
    VS X cl En W ro OB O O (.Expr (.Call (.Attribute (.Name x p) "append" apos) [e] [] cpos) pos) (sMut i appL fa) := vs_mut i mut_app PySem.F.slot_list_append PySem.F.type_list_append mt_append ha hi hN hv hd hcd hbase hfew hline hs hplain hsw
theorem w_extend (i : Nat) {x : Str} {apos cpos p : Pos} {fa : Sl → R (List D)} (ha : VA X cl En W O [e] fa) (hi : i ∈ O := by decide) (hN : X.N[i]? = some x := by rfl) (hv : Vis X.env.scope x := by first | exact Or.inl rfl | exact Or.inr (Or.inl rfl) | exact Or.inr (Or.inr rfl)) (hd : (x == ("__debug__" : Str)) = false := by decide)
    (hcd : (x == ("__classdict__" : Str)) = false := by decide)
    (hbase : attributeBase (.Name x p) "extend" X.env (eval (.Name x p) X.env) = eval (.Name x p) X.env := by rfl)
    (hfew : ((backTo cpos (starEach [e] X.env)).all (fun x => !x.1) && (backToKw cpos (keywordEach [] X.env)).all (fun x => x.1.isSome)
      && decide ([e].length + ([] : List Keyword).length + (if ([] : List Keyword).isEmpty then 0 else 1) < 30)) = true := by rfl)
    (hline : (apos.endLine == cpos.line) = true := by rfl) (hs : starEach [e] X.env = (false, eval e X.env) :: starEach [] X.env := by rfl) (hplain : (backTo cpos (starEach [] X.env)).any (·.1) = false := by rfl)
    (hsw : swapsWith (.Call (.Attribute (.Name x p) "extend" apos) [e] [] cpos) none pos.line X.env = pure false := by rfl) :
    VS X cl En W ro OB O O (.Expr (.Call (.Attribute (.Name x p) "extend" apos) [e] [] cpos) pos) (sMut i extL fa) := vs_mut i mut_ext PySem.F.slot_list_extend PySem.F.type_list_extend mt_extend ha hi hN hv hd hcd hbase hfew hline hs hplain hsw
theorem w_reverse (i : Nat) {x : Str} {apos cpos p : Pos} (hi : i ∈ O := by decide) (hN : X.N[i]? = some x := by rfl) (hv : Vis X.env.scope x := by first | exact Or.inl rfl | exact Or.inr (Or.inl rfl) | exact Or.inr (Or.inr rfl)) (hd : (x == ("__debug__" : Str)) = false := by decide)
    (hcd : (x == ("__classdict__" : Str)) = false := by decide)
    (hbase : attributeBase (.Name x p) "reverse" X.env (eval (.Name x p) X.env) = eval (.Name x p) X.env := by rfl)
    (hline : (apos.endLine == cpos.line) = true := by rfl)
    (hsw : swapsWith (.Call (.Attribute (.Name x p) "reverse" apos) [] [] cpos) none pos.line X.env = pure false := by rfl) :
    VS X cl En W ro OB O O (.Expr (.Call (.Attribute (.Name x p) "reverse" apos) [] [] cpos) pos) (sMut i revL aN) := vs_mut0 i mut_rev PySem.F.slot_list_reverse PySem.F.type_list_reverse mt_reverse hi hN hv hd hcd hbase hline hsw
end
end VS
namespace VS
open PySem PySem.Spec PyProof.Rows L2 ItX
/-! ### a class whose __iter__ is «return iter(self.f)»: walked like its list -/
section
variable {CX : CXT} {P : Program} {w : World} {K : PySem.W.Frag} {mg : Str → Option Value} {base : Heap} {k : Nat} {fa : Addr} {nm qn : Str} {pars : Arguments} {bd : List Stmt} {sco : Scope} {dV kV dc pm cdv ct oc : Value} {an od : Option Addr} {sl : Array (Option Value)} {N ps : List Str}
/-- one call of a def from one state: what the body reads may speak of that state -/
theorem call_once {A : Around} {outer : List Env} {s : Shared} {H : Hp} {args : Args} {us : List Value} {vs : List V} {Q : VK} {E : XK} (lk : K.lookup fa = some ⟨oc, od, .func (PySem.W.fnOf nm qn pars bd sco dV kV dc pm an cdv ct), sl⟩) (hcd : PySem.W.codeIn K cdv qn = true) (S : FnScope N ps sco)
    (hl : vs.length = ps.length) (hr : Room (k + 1) A) (e0 : Env0 P w K mg base A outer s H) (hb : BindsTo s (PySem.W.fnOf nm qn pars bd sco dV kV dc pm an cdv ct) args (ps.zip us)) (r : Vals vs us)
    (hbody : Room k (A.deeper (envOfC qn sco s.heap.objs.size fa cdv)) → ∃ t, PSs (cxOf CX P w K mg base N qn sco fa cdv A outer s H E) bd t ∧ t { nx := fun _ H' => Q .non H', rt := Q } (L2.start N vs) H) :
    codeAny (model P w) A (.call (.ref fa) args) (CR CX outer P w H s Q E) s := by
  have inK : K.In s.heap := e0.mod.kin.keeps fun c o z => (e0.bs c o z).1
  have lim' : s.heap.NoLimit := e0.mod.nolimit.keeps fun c o z => (e0.bs c o z).1
  have kinds : ∀ y ∈ ps.zip us, sco.names.lookup y.1 = some .local ∨ (sco.names.lookup y.1 = some .cell ∧ ((cellsFrom (s.heap.objs.size + 1) sco.names []).lookup y.1).isSome = true) := by
    rintro ⟨n, v⟩ hy
    exact (S.par n (List.of_mem_zip hy).1).elim .inl fun q => .inr ⟨q, PySem.W.cellsFrom_some _ _ _ (.inl q)⟩
  refine codeAny_call_function hr.depth (inK _ _ lk) rfl S.co S.gen rfl (PySem.W.codeRec_of inK hcd) (hb _ _ _ _ ?_)
  refine wpAny_newFunctionEnv_cells S.kind kinds fun env he s1 x => ?_
  subst he
  refine ⟨lim'.keeps x.toInCall.keep, codeAny_func ?_⟩
  obtain ⟨t, ht, hq⟩ := hbody (hr.deeper _)
  refine wpAny_mono (ht.run [] s1 (L2.start N vs) H _ (inv_start S hr.hd e0 hl r x) hq) (fun fl s' hs => ?_) fun _ _ z => z
  cases fl with
  | ret u => obtain ⟨v, _, H', J, rv, q⟩ := hs; exact ⟨v, H', J.os, J.bare, J.base, J.hok, rv, q⟩
  | next => obtain ⟨_, H', J, q⟩ := hs; exact ⟨.non, H', J.os, J.bare, J.base, J.hok, rfl, q⟩
  | brk => obtain ⟨_, _, _, q⟩ := hs; exact q.elim
  | cont => obtain ⟨_, _, _, q⟩ := hs; exact q.elim
end
/-- the shape of such an __iter__ -/
structure IterDef (K : PySem.W.Frag) (mg : Str → Option Value) (C fi : Addr) (fn : String) : Prop where
  it : PySem.W.findIn K (.ref C) "__iter__" = some (some (.ref fi))
  isf : PySem.W.isFn K (.ref fi) = true
  cl : Cls K C
  no : NoAttr K C (Str.ofString fn)
  iter : mg "iter" = none
  ex : ∃ (st : Stmt) (fd : FuncData) (qn : Str) (p1 p2 p3 p4 p5 : Pos), Fun K "__iter__" qn st fi fd ∧ FnScope ["self"] ["self"] (defScope st) ∧ (defScope st).names.lookup ("self" : Str) = some NameKind.local ∧ (defScope st).names.lookup ("iter" : Str) = some NameKind.globalImplicit ∧ Binds K fd ["self"] [] ∧
    defBody st = [.Return (some (.Call (.Name "iter" p1) [.Attribute (.Name "self" p2) (Str.ofString fn) p3] [] p4)) p5]
section
variable {X : Cx} {cl : Ctx} {En : Ety} {W : WX} {O : List Nat} {e tg : Expr} {f : Sl → R D} {C fi : Addr} {c fn : String}
def ownD (c fn : String) (d : D) : R (List D) := match d with
  | .ins c' gs => if c' = c then (match gs.lookup fn with | some (.lst l) => .ok l | _ => .bad) else .bad
  | _ => .bad
def iOwn (c fn : String) (f : Sl → R D) : Sl → R (List D) := fun s => (f s).bind (ownD c fn)
theorem vi_own (T : IterDef X.K X.mg C fi fn) (hcl : cl c = some C) (hr : Room 2 X.A) (h : VE X cl En W O e f) : VI X cl En W O tg e (iOwn c fn f) := by
  refine ⟨fun pins s σ H R I hw => ?_⟩
  obtain ⟨s', F, S, p⟩ := hw
  refine thn (h.run pins s σ H (fun v H1 => ∃ a dx fs l vs, v = .ref a ∧ H1 a = some (.ins C dx fs) ∧ fs.lookup (Str.ofString fn) = some (.ref l) ∧ H1 l = some (.lst vs) ∧ R (Itl X.K l) H1) I ?_) fun u s1 hu => ?_
  · refine ⟨s', F, S, p.bind fun d hdd0 p1 v F1 H1 e1 r1 => ?_⟩
    unfold ownD at p1
    cases d <;> first | exact p1.elim | skip
    rename_i c' gs
    have p2 : Pst X.K cl W σ F H (fun ds => ∀ J F' H', Ent F H F' H' → Wk X cl J F' ds → R J H') (if c' = c then (match gs.lookup fn with | some (.lst l) => .ok l | _ => .bad) else .bad) := p1
    by_cases hc : c' = c
    · subst hc
      rw [if_pos rfl] at p2
      cases q : gs.lookup fn with
      | none => rw [q] at p2; exact p2.elim
      | some d =>
        rw [q] at p2
        cases d <;> first | exact p2.elim | skip
        rename_i ds
        cases r1 with
        | @ins a C' dx _ fs _ g1 g2 g3 =>
          rw [hcl] at g1
          cases g1
          obtain ⟨v, h4, h5⟩ := g3.lookup q
          cases h5 with
          | @lst l vs _ hq0 ra =>
            have hq : SqL X.K F1 l vs := .inl (.inl hq0)
            refine ⟨a, dx, fs, l, vs, rfl, e1.fh _ _ g2, h4, e1.fh _ _ hq0, p2 _ F1 H1 e1 ⟨fun F2 H2 s1 s2 => ⟨vs, Same.sql (s1.trans s2) hq, by rw [ra.length]; exact Nat.le_refl _⟩, fun i d F2 H2 s1 s2 hd => ?_⟩⟩
            obtain ⟨v, hv, rv⟩ := ra.get hd
            have hq2 := Same.sql (s1.trans s2) hq
            refine ⟨⟨vs, v, hq2, hv⟩, fun x H3 y => ?_⟩
            obtain ⟨rfl, y⟩ := y
            have := y vs hq2
            rw [hv] at this
            cases this
            exact ⟨F2, Ent.refl s2, rv.mono s1⟩
    · rw [if_neg hc] at p2; exact p2.elim
  · obtain ⟨v, H1, I1, rv, a, dx, fs, l, vs, rfl, ea, hl, hvs, hR⟩ := hu
    cases rv
    obtain ⟨m, fr⟩ := I1.fr
    obtain ⟨mA, OM, _⟩ := ins_get I1.hok ea
    obtain ⟨od, J, _⟩ := OM.look
    obtain ⟨st, fd, qn, p1, p2, p3, p4, p5, FF, sc, k1, k2, bd, eb⟩ := T.ex
    obtain ⟨oc, od2, kV, doc, pm, an, cdv, ct, osl, rfl, lk, hcd⟩ := FF.ex
    refine PySem.W.owit_iter fr I1.ok.mod.kin J T.it T.isf (wpAny_call ?_)
    refine codeAny_mono (call_once (CX := fun _ _ _ _ _ _ => False) (E := E0) (vs := [.ref a]) (us := [.ref a]) (Q := fun v H' => ∃ it, v = .ref it ∧ H' = upd H1 it (ItO l it 0) ∧ H1 it = none ∧ s1.heap.objs.size ≤ it) lk hcd sc rfl hr I1.env0 (bd s1 [.ref a] I1.kIn rfl) (.cons rfl .nil) fun _ => ?_) fun r s2 hq => ?_
    · rw [eb]
      refine ⟨_, pss_one (ps_ret (pe_callB call_iterN (by exact k2) (by exact T.iter) (by decide +kernel) (pa_cons (pe_fld (pe_var (i := 0) (x := "self") rfl (.inl k1)) rfl) pa_nil))), ?_⟩
      exact ⟨.ref a, rfl, a, C, dx, fs, .ref l, rfl, ea, T.cl, T.no, hl, l, vs, rfl, .inl (.inl hvs), fun it n1 n2 => ⟨it, rfl, rfl, n1, n2⟩⟩
    · cases r with
      | error e => exact False.elim hq
      | ok fl =>
        cases fl with
        | next => exact False.elim hq
        | brk => exact False.elim hq
        | cont => exact False.elim hq
        | ret u =>
          obtain ⟨v, H', I2, rv, it, rfl, eH, n1, n2⟩ := I1.after hq
          cases rv
          have hi : H' it = some (ItO l it 0) := by rw [eH, upd_same]
          have eo := itO_get I2 hi
          have hT : s2.TypeIs (.ref it) "list_iterator" := ⟨_, eo, rfl⟩
          show PySem.W.OwitIt _ _ _ _ (.ref it) s2
          unfold PySem.W.OwitIt
          refine wpAny_specialOf (name := Str.ofString "__next__") hT PySem.slot_listiter_next.lookup ?_
          refine ⟨it, [it], _, _, dropH H' it, rfl, inv_drop I2 hi, turn_list l it, ⟨_, eo, rfl, rfl⟩, fun b hb => ?_, ?_⟩
          · have e : b = it := by simpa using hb
            rw [e]
            exact inv_fp I2 hi (Nat.le_trans I1.sz n2)
          · rw [eH, dropH_upd n1]
            exact hR
end
end VS
namespace VS
open PySem PySem.Spec PyProof.Rows L2
/-! ### dicts -/
def leafOf : D → Option Leaf | .non => some .none | .int i => some (.num i) | .str x => some (.text x) | _ => none
theorem leafOf_D (k : Leaf) : leafOf (leafD k) = some k := by cases k <;> rfl
def keyIs (l : Leaf) (d : D) : Bool := decide (leafOf d = some l)
theorem keyIs_D (l k : Leaf) : keyIs l (leafD k) = decide (k = l) := by
  unfold keyIs
  rw [leafOf_D]
  simp
def dLook (es : List (D × D)) (l : Leaf) : Option D := (es.find? fun e => keyIs l e.1).map (·.2)
def dPut (es : List (D × D)) (l : Leaf) (v : D) : List (D × D) := if (es.any fun e => keyIs l e.1) = true then es.map (fun e => if keyIs l e.1 = true then (e.1, v) else e) else es ++ [(leafD l, v)]
section
variable {K : PySem.W.Frag} {cl : Ctx} {F : Hp}
theorem RpK.length : ∀ {kvs : List (Leaf × V)} {es : List (D × D)}, RpK K cl F kvs es → kvs.length = es.length
  | _, _, .nil => rfl
  | _, _, .cons _ r => by simp [RpK.length r]
theorem RpK.look : ∀ {kvs : List (Leaf × V)} {es : List (D × D)} (l : Leaf), RpK K cl F kvs es → (valV kvs l = none ∧ dLook es l = none) ∨ ∃ v d, valV kvs l = some v ∧ dLook es l = some d ∧ Rp K cl F v d
  | _, _, l, .nil => .inl ⟨rfl, rfl⟩
  | _, _, l, .cons (k := k) (v := v) (d := d) (vs := vs) (ds := ds) r q => by
    by_cases e : k = l
    · refine .inr ⟨v, d, valV_pos e, ?_, r⟩
      unfold dLook
      rw [List.find?_cons, keyIs_D, decide_eq_true e]
      rfl
    · have h1 : valV ((k, v) :: vs) l = valV vs l := valV_neg e
      have h2 : dLook ((leafD k, d) :: ds) l = dLook ds l := by
        unfold dLook
        rw [List.find?_cons, keyIs_D, decide_eq_false e]
      rw [h1, h2]
      exact RpK.look l q
theorem RpK.any : ∀ {kvs : List (Leaf × V)} {es : List (D × D)} (l : Leaf), RpK K cl F kvs es → (kvs.any fun kv => decide (kv.1 = l)) = es.any fun e => keyIs l e.1
  | _, _, l, .nil => rfl
  | _, _, l, .cons r q => by rw [List.any_cons, List.any_cons, RpK.any l q, keyIs_D]
theorem RpK.repl {v : V} {d : D} (l : Leaf) (h : Rp K cl F v d) : ∀ {kvs : List (Leaf × V)} {es : List (D × D)}, RpK K cl F kvs es → RpK K cl F (kvs.map fun kv => if kv.1 = l then (kv.1, v) else kv) (es.map fun e => if keyIs l e.1 = true then (e.1, d) else e)
  | _, _, .nil => .nil
  | _, _, .cons (k := k) r q => by
    rw [List.map_cons, List.map_cons]
    by_cases e : k = l
    · rw [if_pos e, if_pos (by rw [keyIs_D]; exact decide_eq_true e)]
      exact .cons h (RpK.repl l h q)
    · rw [if_neg e, if_neg (by rw [keyIs_D]; simp [e])]
      exact .cons r (RpK.repl l h q)
theorem RpK.snoc {v : V} {d : D} (l : Leaf) (h : Rp K cl F v d) : ∀ {kvs : List (Leaf × V)} {es : List (D × D)}, RpK K cl F kvs es → RpK K cl F (kvs ++ [(l, v)]) (es ++ [(leafD l, d)])
  | _, _, .nil => .cons h .nil
  | _, _, .cons r q => .cons r (RpK.snoc l h q)
theorem RpK.put {v : V} {d : D} (l : Leaf) (h : Rp K cl F v d) {kvs : List (Leaf × V)} {es : List (D × D)} (r : RpK K cl F kvs es) : RpK K cl F (putK kvs l v) (dPut es l d) := by
  unfold putK dPut
  rw [r.any l]
  by_cases e : (es.any fun e => keyIs l e.1) = true
  · rw [if_pos e, if_pos e]; exact r.repl l h
  · rw [if_neg e, if_neg e]; exact r.snoc l h
theorem RpK.get : ∀ {kvs : List (Leaf × V)} {es : List (D × D)} {i : Nat} {e : D × D}, RpK K cl F kvs es → es[i]? = some e → ∃ k v, kvs[i]? = some (k, v) ∧ e.1 = leafD k ∧ Rp K cl F v e.2
  | _, _, 0, _, .cons r _, h => by simp at h; subst h; exact ⟨_, _, rfl, rfl, r⟩
  | _, _, i + 1, _, .cons _ q, h => by simpa using RpK.get (i := i) q (by simpa using h)
  | _, _, i, _, .nil, h => by simp at h
theorem Rp.leaf {H : Hp} {v : V} {d : D} {l : Leaf} (r : RpB K cl F H v d) (h : leafOf d = some l) : v = leafV l := by
  cases d <;> simp only [leafOf] at h <;> cases h
  · exact r.non
  · exact r.int
  · exact r.str
end
section
variable {X : Cx} {pins : List (Addr × Obj)} {σ : L2.St} {H : Hp} {s : Shared} {a : Addr} {o : Obj} {kvs : List (Leaf × V)} {A : Around} {E : Value → Shared → Prop}
theorem dct_at (I : Inv X pins σ H s) (h : H a = some (dctO X.prog X.w a o kvs)) : s.heap.get? a = some o ∧ (a == sysModules) = false ∧ kvs.length ≤ sizeLine ∧ ∃ vs, KV kvs vs ∧ s.heap.DictOf (nkKind X.prog X.w) a vs := (I.hok a _ h).1
theorem dct_ok {P : Program} {w : World} {H : Hp} {h : Heap} {vs : List (Leaf × Value)} (e : h.get? a = some o) (hd : (a == sysModules) = false) (hz : kvs.length ≤ sizeLine) (r : KV kvs vs) (dd : h.DictOf (nkKind P w) a vs) : ObjOk P w H h a (dctO P w a o kvs) :=
  ⟨⟨e, hd, hz, vs, r, dd⟩, ⟨o, e⟩, fun h1 h2 ⟨e1, g1, g2, vs, g3, o', es, ep, q1, q2⟩ k => ⟨k _ e1, g1, g2, vs, g3, o', es, ep, k _ q1, q2⟩⟩
theorem dct_full (I : Inv X pins σ H s) (h : H a = some (dctO X.prog X.w a o kvs)) :
    (a == sysModules) = false ∧ s.heap.get? a = some o ∧ o.ExactDict ∧ ∃ (es : Array DictEntry) (ep : Nat) (vs : List (Leaf × Value)), o.data = .dict es ep ∧ es.size = kvs.length ∧ KV kvs vs ∧ s.heap.DictAt (nkKind X.prog X.w) a vs ep := by
  obtain ⟨hd, hs, z, vs, kv, o', es, ep, ho, hx, hdt, r⟩ := dct_at I h
  rw [hd] at ho
  cases ho
  refine ⟨hs, hd, hx, es, ep, vs, hdt, ?_, kv, o, es, hd, hx, hdt, r⟩
  have l1 := r.2.1.length
  have l2 : kvs.length = vs.length := Paired.length kv
  rw [Array.length_toList] at l1
  omega
/-! the keys, walked -/
def Itn (P : Program) (w : World) (d : Addr) (o : Obj) (kvs : List (Leaf × V)) : It :=
  ⟨fun i H => H d = some (dctO P w d o kvs) ∧ i < kvs.length, fun i H x H' => H' = H ∧ ∃ k v, kvs[i]? = some (k, v) ∧ x = leafV k, fun i H => H d = some (dctO P w d o kvs) ∧ kvs.length ≤ i⟩
theorem turn_nk {P : Program} {w : World} {K : PySem.W.Frag} {tg : Expr} {d : Addr} {es : Array DictEntry} {ep : Nat} (it : Addr) (hod : o.data = .dict es ep) : Turn P w K tg (Itn P w d o kvs) [it] it (fun i h => h.IsKeyIter it d i kvs.length ep) where
  mem := by simp
  obj := fun i h st b hb => by
    have e : b = it := by simpa using hb
    subst e
    obtain ⟨oi, e, c, dd⟩ := st
    exact ⟨oi, e, fun v z => by rw [dd] at z; cases z⟩
  keep := fun i h h' st k => st.at fun oi e => k it (by simp) oi e
  item := by
    intro X hP hw hK hc i pins s σ H E I hf st hg
    subst hP hw hK
    obtain ⟨hd, hi⟩ := hg
    obtain ⟨f0, f1, f2, f3, f4, f5⟩ := hf it (by simp)
    obtain ⟨hs, hgd, hx, es', ep', vs, hdt, hsz, kv, hm⟩ := dct_full I hd
    obtain ⟨rfl, rfl⟩ := dict_ep hod hdt
    obtain ⟨⟨k, v⟩, hkv⟩ : ∃ p, kvs[i]? = some p := ⟨kvs[i], List.getElem?_eq_getElem hi⟩
    have hl : kvs.length = vs.length := Paired.length kv
    obtain ⟨⟨k', u⟩, hu⟩ : ∃ p, vs[i]? = some p := ⟨vs[i], List.getElem?_eq_getElem (by omega)⟩
    have hkk : k = k' := by
      have h1 := congrArg (·[i]?) (KV.keys kv)
      simp only [List.getElem?_map, hkv, hu] at h1
      simpa using h1
    subst hkk
    have st : s.heap.IsKeyIter it d i vs.length ep' := by rw [← hl]; exact st
    refine wpAny_pyNext_dict_item st hm hu fun key h' hkey st' sb => ?_
    have I1 : Inv X pins σ H { s with heap := h' } := I.turned (t' := s.toks) (fun b ob hb e => (sb.2 b hb).trans e) f0 f1 f3 f4 f5
    obtain ⟨oi, e, c, dd⟩ := id st'
    refine ⟨key, rfl, go_of (s := { s with heap := h' }) e c dd (by decide) ⟨leafV k, H, I1, leaf_of hkey, ⟨rfl, k, v, hkv, rfl⟩, ?_, fun b hb => (hf b hb).1⟩⟩
    show h'.IsKeyIter it d (i + 1) kvs.length _
    rw [hl]
    exact st'
  done := by
    intro X hP hw hK hc i pins s σ H E I hf st hg
    subst hP hw hK
    obtain ⟨hd, hi⟩ := hg
    obtain ⟨f0, f1, f2, f3, f4, f5⟩ := hf it (by simp)
    obtain ⟨hs, hgd, hx, es', ep', vs, hdt, hsz, kv, hm⟩ := dct_full I hd
    obtain ⟨rfl, rfl⟩ := dict_ep hod hdt
    exact next_key_end (I.ok.hd hc) st hgd hdt hsz hi fun h' eb => ⟨rfl, I.turned (t' := s.toks) (fun b ob hb e => eb b ob hb e) f0 f1 f3 f4 f5⟩
  self := fun A i s Q E st h => wpAny_pyIter_keyiter st h
end
/-! ### their rules -/
def lookD (es : List (D × D)) (x : D) (dflt : D) : R D := match leafOf x with | some l => .ok ((dLook es l).getD dflt) | none => .bad
def memD (neg : Bool) : D → D → R D := fun x y => match y with
  | .dct es => (match leafOf x with | some l => .ok (.bl (if neg = true then !(dLook es l).isSome else (dLook es l).isSome)) | none => .bad)
  | _ => inD neg x y
def ixE : D → D → R D := fun x y => match x with
  | .dct es => (match leafOf y with | some l => (match dLook es l with | some d => .ok d | none => .bad) | none => .bad)
  | _ => ixD x y
def dctOf (d : D) : R (List (D × D)) := match d with | .dct es => .ok es | _ => .bad
def eGet (fd fk fx : Sl → R D) : Sl → R D := fun s => (fd s).bind fun d => (dctOf d).bind fun es => (fk s).bind fun k => (fx s).bind fun x => lookD es k x
def keysD (d : D) : R (List D) := match d with | .dct es => .ok (es.map (·.1)) | _ => .bad
def iKeysD (f : Sl → R D) : Sl → R (List D) := fun s => (f s).bind keysD
/-- d[k] = v -/
def putD (s : Sl) (i : Nat) (es : List (D × D)) (v k : D) : Out := match leafOf k with | some l => if es.length < lim then .nx (s.set i (some (.dct (dPut es l v)))) else .bad | none => .bad
def sPut (i : Nat) (fk fv : Sl → R D) : S1 := fun s => lift (fv s) s fun v => match s[i]? with
  | some (some (.dct es)) => lift (fk s) s fun k => putD s i es v k
  | _ => .bad
theorem nox_mem {neg} : NoX2 (memD neg) := fun x y c fs h => by
  unfold memD at h
  split at h
  · split at h <;> cases h
  · exact nox_in _ _ _ _ h
theorem nox_ixE : NoX2 ixE := fun x y c fs h => by
  unfold ixE at h
  split at h
  · split at h
    · split at h <;> cases h
    · cases h
  · exact nox_ix _ _ _ _ h
section
variable {X : Cx} {cl : Ctx} {En : Ety} {W : WX} {ro : Bool} {OB O : List Nat} {e o k x tg : Expr} {f fd fk fx fv : Sl → R D} {pos apos cpos : Pos}
theorem og_mem (hP : cl.P = X.prog := by rfl) (hw : cl.w = X.w := by rfl) : OpR X (compareOp .In) (rG X.K cl (memD false)) := by
  intro pins s σ H x y v u Q I rx ry ⟨F, dx, dy, d, sm, r1, r2, hg, q⟩
  unfold memD at hg
  split at hg
  · split at hg
    · rename_i ES _ l hl
      cases hg
      obtain ⟨a, ob, kvs, rfl, h1, h2⟩ := r2.dct sm
      rw [hP, hw] at h1
      have := Rp.leaf r1 hl
      subst this
      cases ry
      obtain ⟨_, hd, hz, vs, kv, dd⟩ := dct_at I h1
      refine wpAny_in_of (leaf_is rx) hd dd.mapOf ?_
      rw [← (kv.val l).isSome_eq]
      refine ⟨.bl (valV kvs l).isSome, H, I.tok _, rfl, ?_⟩
      have e : (valV kvs l).isSome = (dLook ES l).isSome := by
        rcases h2.look l with ⟨e1, e2⟩ | ⟨v, d, e1, e2, _⟩ <;> rw [e1, e2] <;> rfl
      rw [e]
      exact q _ F H (Ent.refl sm) (.bl _)
    · cases hg
  · exact og_in pins s σ H x y v u Q I rx ry ⟨F, dx, dy, d, sm, r1, r2, hg, q⟩
theorem og_notMem (hP : cl.P = X.prog := by rfl) (hw : cl.w = X.w := by rfl) : OpR X (compareOp .NotIn) (rG X.K cl (memD true)) := by
  intro pins s σ H x y v u Q I rx ry ⟨F, dx, dy, d, sm, r1, r2, hg, q⟩
  unfold memD at hg
  split at hg
  · split at hg
    · rename_i ES _ l hl
      cases hg
      obtain ⟨a, ob, kvs, rfl, h1, h2⟩ := r2.dct sm
      rw [hP, hw] at h1
      have := Rp.leaf r1 hl
      subst this
      cases ry
      obtain ⟨_, hd, hz, vs, kv, dd⟩ := dct_at I h1
      refine wpAny_notIn_of (leaf_is rx) hd dd.mapOf ?_
      rw [← (kv.val l).isSome_eq]
      refine ⟨.bl (!(valV kvs l).isSome), H, I.tok _, rfl, ?_⟩
      have e : (valV kvs l).isSome = (dLook ES l).isSome := by
        rcases h2.look l with ⟨e1, e2⟩ | ⟨v, d, e1, e2, _⟩ <;> rw [e1, e2] <;> rfl
      rw [e]
      exact q _ F H (Ent.refl sm) (.bl _)
    · cases hg
  · exact og_notIn pins s σ H x y v u Q I rx ry ⟨F, dx, dy, d, sm, r1, r2, hg, q⟩
theorem ig_ixE (hP : cl.P = X.prog := by rfl) (hw : cl.w = X.w := by rfl) : IxR X (rG X.K cl ixE) := by
  intro value slice pins s σ H x y v u Q I rx ry ⟨F, dx, dy, d, sm, r1, r2, hg, q⟩ hs
  unfold ixE at hg
  split at hg
  · split at hg
    · rename_i l hl
      split at hg
      · rename_i d' hd'
        cases hg
        obtain ⟨a, ob, kvs, rfl, h1, h2⟩ := r1.dct sm
        rw [hP, hw] at h1
        have := Rp.leaf r2 hl
        subst this
        cases rx
        obtain ⟨_, hd, hz, vs, kv, dd⟩ := dct_at I h1
        rcases h2.look l with ⟨e1, e2⟩ | ⟨w, d2, e1, e2, rw'⟩
        · rw [e2] at hd'; cases hd'
        · rw [e2] at hd'
          cases hd'
          obtain ⟨w', hw', rw2⟩ := RelO.some_of (v := w) (o := valueAt vs l) (by rw [← e1]; exact kv.val l)
          exact tail_any dd.typeIs PySem.F.slot_dict_getitem.lookup (wpAny_getItem_of (leaf_is ry) dd.mapOf hw' ⟨w, H, I.tok _, rw2, q _ F H (Ent.refl sm) rw'⟩) hs
      · cases hg
    · cases hg
  · exact ig_ix value slice pins s σ H x y v u Q I rx ry ⟨F, dx, dy, d, sm, r1, r2, hg, q⟩ hs
theorem vo_dict0 (hP : cl.P = X.prog := by rfl) (hw : cl.w = X.w := by rfl) : VO X cl En W O (.Dict [] [] pos) (eC (.dct [])) := ⟨fun pins s σ H Q I ⟨s', F, S, p⟩ => by
  have fr : H s.heap.objs.size = none := I.hok.fresh (Nat.le_refl _)
  have ok : ObjOk X.prog X.w (upd H s.heap.objs.size (dctO X.prog X.w s.heap.objs.size { cls := .type "dict", data := .dict #[] } [])) (s.heap.push { cls := .type "dict", data := .dict #[] }) s.heap.objs.size (dctO X.prog X.w s.heap.objs.size { cls := .type "dict", data := .dict #[] } []) := by
    have h0 := dk_empty (P := X.prog) (w := X.w) (H := H) s.heap I.big
    refine dct_ok (vs := []) (Heap.get?_push_size _ rfl) h0.2.1 (Nat.zero_le _) .nil ?_
    exact ⟨_, _, _, Heap.get?_push_size _ rfl, ⟨rfl, rfl, rfl⟩, rfl, fun e he => by simp at he, .nil, List.nodup_nil⟩
  refine wpAny_Dict_empty ⟨.ref s.heap.objs.size, _, I.laid (a := s.heap.objs.size) (t' := s.toks) (fun _ _ q => Heap.get?_push_of_some _ q) (Nat.le_refl _) ok, rfl, ?_⟩
  have p : ∀ a o F' H', Ent F H F' H' → H a = none → H' a = some o → F' a = none → Cell X.K cl F' a o (.dct []) → Q (.ref a) H' := p
  refine p _ _ _ _ (Ent.cell S.fh fr) fr upd_same (S.fh.free fr) ?_
  rw [← hP, ← hw]
  exact .dct .nil⟩
theorem ve_get2 (ho : VB X cl En W O o fd) (hk : VE X cl En W O k fk) (hx : VE X cl En W O x fx) (hP : cl.P = X.prog := by rfl) (hw : cl.w = X.w := by rfl)
    (m : M2 X o "get" apos k x cpos := by exact ⟨rfl, rfl, rfl, rfl⟩) : VE X cl En W O (.Call (.Attribute o "get" apos) [k, x] [] cpos) (eGet fd fk fx) := ⟨fun pins s σ H Q I ⟨s', F, S, p⟩ => by
  refine wpAny_Call_method m.base m.few m.line PySem.F.plainAttrs_dict PySem.F.slot_dict_get PySem.F.type_dict_get (thn (ho.run pins s σ H (fun v H1 => ∃ a ob kvs F1 es, v = .ref a ∧ H1 a = some (dctO cl.P cl.w a ob kvs) ∧ RpK X.K cl F1 kvs es ∧ Ent F H F1 H1 ∧
    Pst X.K cl W σ F1 H1 (fun d => ∀ v F' H', Ent F H F' H' → Rp X.K cl F' v d → Q v H') ((fk s').bind fun k => (fx s').bind fun x => lookD es k x)) I ⟨s', F, S, p.bind fun d hd p1 v F1 H1 e1 r1 => ?_⟩) fun u s1 ⟨v, H1, I1, rv, a, ob, kvs, F1, es, ev, ea, rk, e1, p1⟩ => ?_)
  · cases d with
    | dct es =>
      obtain ⟨a, ob, kvs, rfl, h1, h2⟩ := r1.dct e1.fh
      exact ⟨a, ob, kvs, F1, es, rfl, h1, h2, e1, p1.grow e1⟩
    | _ => exact p1.elim
  · subst ev
    cases rv
    have ea' : H1 a = some (dctO X.prog X.w a ob kvs) := by rw [← hP, ← hw]; exact ea
    obtain ⟨q0, q1, q2, vs, kv, dd⟩ := dct_at I1 ea'
    refine ⟨dd.typeIs, fun b z => ?_, ?_⟩
    · cases z
      obtain ⟨ob', _, _, g1, g2, _⟩ := dd
      exact ⟨ob', g1, g2.2.1⟩
    rw [m.trees]
    refine Calls.callWith_builtin rfl (Calls.evalArgs_plain (Calls.spliced_cons (thn (hk.run pins s1 σ H1 (fun y H2 => ∃ F2 kd, Ent F1 H1 F2 H2 ∧ Rp X.K cl F2 y kd ∧
      Pst X.K cl W σ F2 H2 (fun d => ∀ v F' H', Ent F H F' H' → Rp X.K cl F' v d → Q v H') ((fx s').bind fun x => lookD es kd x)) I1 ⟨s', F1, S.grow e1, p1.bind fun kd _ p2 y F2 H2 e2 r2 => ⟨F2, kd, e2, r2, p2.grow e2⟩⟩) fun iv s2 ⟨y, H2, I2, ry, F2, kd, e2, r2, p2⟩ =>
      Calls.spliced_cons (thn (hx.run pins s2 σ H2 (fun z H3 => ∃ F3 xd, Ent F2 H2 F3 H3 ∧ Rp X.K cl F3 z xd ∧
        Pst X.K cl W σ F3 H3 (fun d => ∀ v F' H', Ent F H F' H' → Rp X.K cl F' v d → Q v H') (lookD es kd xd)) I2 ⟨s', F2, (S.grow e1).grow e2, p2.bind fun xd _ p3 z F3 H3 e3 r3 => ⟨F3, xd, e3, r3, p3.grow e3⟩⟩) fun fv s3 ⟨z, H3, I3, rz, F3, xd, e3, r3, p3⟩ => Calls.spliced_nil ?_))))
    unfold lookD at p3
    cases hl : leafOf kd with
    | none => rw [hl] at p3; exact p3.elim
    | some l =>
      rw [hl] at p3
      have p3 : Pst X.K cl W σ F3 H3 (fun d => ∀ v F' H', Ent F H F' H' → Rp X.K cl F' v d → Q v H') (R.ok ((dLook es l).getD xd)) := p3
      have : y = leafV l := Rp.leaf (H := H2) (.inl r2) hl
      subst this
      have ea3 : H3 a = some (dctO X.prog X.w a ob kvs) := e3.h _ _ (e2.h _ _ ea')
      obtain ⟨_, hds, _, vs3, kv3, dd3⟩ := dct_at I3 ea3
      refine call_meetsIn PySem.F.slot_dict_get dd3.typeIs PySem.F.entry_dict_get (PySem.F.args_dict_get_3 _ _ _) (meets_dict_get_default (nkKind X.prog X.w) a (leaf_is ry) hds fv) ⟨_, dd3.mapOf, ?_⟩
      have rk3 := rk.mono (e2.f.trans e3.f)
      have en := (e1.trans e2).trans e3
      rcases rk3.look l with ⟨g1, g2⟩ | ⟨w, d2, g1, g2, rw'⟩
      · rw [g2] at p3
        refine ⟨z, H3, I3.tok _, ?_, p3 z F3 H3 en r3⟩
        have := (kv3.val l).getD rz
        rw [g1] at this
        exact this
      · rw [g2] at p3
        refine ⟨w, H3, I3.tok _, ?_, p3 w F3 H3 en rw'⟩
        have := (kv3.val l).getD rz
        rw [g1] at this
        exact this⟩
/-- d[k] = v, d an owned dict -/
theorem vs_put (i : Nat) {y : Str} {p p' : Pos} (hv : VE X cl En W O e fv) (hk : VE X cl En W O k fk) (hi : i ∈ O := by decide) (hP : cl.P = X.prog := by rfl) (hw : cl.w = X.w := by rfl) (hN : X.N[i]? = some y := by rfl) (hvi : Vis X.env.scope y := by first | exact Or.inl rfl | exact Or.inr (Or.inl rfl) | exact Or.inr (Or.inr rfl)) (hd : (y == ("__debug__" : Str)) = false := by decide)
    (hcd : (y == ("__classdict__" : Str)) = false := by decide) (hs : swapsWith e (some (.Subscript (.Name y p) k p')) pos.line X.env = pure false := by rfl) : VS X cl En W ro OB O O (.Assign [.Subscript (.Name y p) k p'] e pos) (sPut i fk fv) := ⟨fun pins s σ H E I ⟨s', F, S, q⟩ => by
  unfold sPut at q
  refine wpAny_Assign_Subscript (thn (hv.run pins s σ H (fun v H1 => ∃ F1 vd es, Ent F H F1 H1 ∧ Rp X.K cl F1 v vd ∧ s'[i]? = some (some (.dct es)) ∧ PstS X cl En W ro OB O F E (lift (fk s') s' fun k => putD s' i es vd k)) I ⟨s', F, S, PstS.lift S q fun vd _ q1 v F1 H1 e1 r1 => ?_⟩) fun r s1 ⟨v, H1, I1, rv, F1, vd, es, e1, r1, hsi, q1⟩ => ?_) hs
  · cases hsi : s'[i]? with
    | none => rw [hsi] at q1; exact q1.elim
    | some u =>
      cases u with
      | none => rw [hsi] at q1; exact q1.elim
      | some d =>
        rw [hsi] at q1
        cases d with
        | dct es => exact ⟨F1, vd, es, e1, r1, rfl, q1⟩
        | _ => exact q1.elim
  · have S1 := S.grow e1
    obtain ⟨a, ho, h1, h2, h3, h4, h5⟩ := S1.own i _ hi hsi
    cases h5 with
    | @dct ob kvs _ rk =>
      refine thn ((pe_var (pos := p) hN hvi hd hcd).run pins s1 σ H1 (fun v' H2 => v' = .ref a ∧ H2 = H1) I1 ⟨_, h1, rfl, rfl⟩) fun u s2 ⟨x', H2, I2, rx, ex, eH⟩ => ?_
      subst ex eH
      cases rx
      refine thn (hk.run pins s2 σ H2 (fun y H3 => ∃ F3 kd, Ent F1 H2 F3 H3 ∧ Rp X.K cl F3 y kd ∧ PstS X cl En W ro OB O F1 E (putD s' i es vd kd)) I2 ⟨s', F1, S1, PstS.lift S1 (q1.mono e1.f) fun kd hkd q2 y F3 H3 e3 r3 => ⟨F3, kd, e3, r3, q2⟩⟩) fun iv s3 ⟨y, H3, I3, ry, F3, kd, e3, r3, q2⟩ => ?_
      · unfold putD at q2
        cases hl : leafOf kd with
        | none => rw [hl] at q2; exact q2.elim
        | some l =>
          rw [hl] at q2
          have q2 : PstS X cl En W ro OB O F1 E (if es.length < lim then .nx (s'.set i (some (.dct (dPut es l vd)))) else .bad) := q2
          by_cases hz : es.length < lim
          · rw [if_pos hz] at q2
            have : y = leafV l := Rp.leaf (H := H3) (.inl r3) hl
            subst this
            have ea3 : H3 a = some (dctO cl.P cl.w a ob kvs) := e3.h _ _ h2
            rw [hP, hw] at ea3
            obtain ⟨_, hds, hzz, vs3, kv3, dd3⟩ := dct_at I3 ea3
            have hzv : vs3.length ≤ sizeLine := by rw [← kv3.length]; exact hzz
            refine wpAny_setItem_pairs (hsz := hzv) (leaf_is ry) dd3 fun h' dd' hsb => ?_
            obtain ⟨ob', hob'⟩ : ∃ o', h'.get? a = some o' := let ⟨o', _, _, hq, _⟩ := dd'; ⟨o', hq⟩
            have hl2 : (putK kvs l v).length ≤ sizeLine := by
              have h8 := length_putK kvs l v
              have h9 : kvs.length < lim := by rw [rk.length]; exact hz
              have := lim_le
              omega
            have F3a : F3 a = none := e3.fr _ (by rw [h2]; simp) h3
            have S3 := S1.grow e3
            have r3v := r1.mono e3.f
            have I4 : Inv X pins σ (upd H3 a (dctO X.prog X.w a ob' (putK kvs l v))) { s3 with heap := h' } :=
              d_write (t' := s3.toks) I3 (by rw [ea3]; exact True.intro) hsb ⟨_, hob'⟩ (dct_ok hob' hds hl2 (kv3.put l rv) dd')
            refine ⟨σ, _, I4.tok _, q2 σ F3 _ e3.f (S3.change hi hsi h1 F3a h4 ?_)⟩
            rw [← hP, ← hw]
            exact .dct ((rk.mono e3.f).put l r3v)
          · rw [if_neg hz] at q2; exact q2.elim⟩
/-- the keys of a dict, walked -/
theorem vi_keys (h : VE X cl En W O e f) (hP : cl.P = X.prog := by rfl) (hw : cl.w = X.w := by rfl) : VI X cl En W O tg e (iKeysD f) := ⟨fun pins s σ H R I ⟨s', F, S, p⟩ => by
  refine thn (h.run pins s σ H (fun v H1 => ∃ a ob kvs, v = .ref a ∧ H1 a = some (dctO X.prog X.w a ob kvs) ∧ R (Itn X.prog X.w a ob kvs) H1) I ⟨s', F, S, p.bind fun d hd0 p1 v F1 H1 e1 r1 => ?_⟩) fun u s1 ⟨v, H1, I1, rv, a, ob, kvs, ev, ea, hR⟩ => ?_
  · cases d with
    | dct es =>
      cases r1 with
      | @dct a ob kvs _ g1 g2 =>
        rw [hP, hw] at g1
        refine ⟨a, ob, kvs, rfl, e1.fh _ _ g1, p1 _ F1 H1 e1 ⟨fun F2 H2 s1 s2 => ⟨s2 _ _ (s1 _ _ g1), by rw [List.length_map, g2.length]; exact Nat.le_refl _⟩, fun i d F2 H2 s1 s2 hd => ?_⟩⟩
        rw [List.getElem?_map] at hd
        cases q : es[i]? with
        | none => rw [q] at hd; cases hd
        | some e =>
          rw [q] at hd
          cases hd
          obtain ⟨k, w, h1, h2, h3⟩ := g2.get q
          refine ⟨⟨s2 _ _ (s1 _ _ g1), (List.getElem?_eq_some_iff.mp h1).1⟩, fun x H3 y => ?_⟩
          obtain ⟨rfl, k', v', h4, rfl⟩ := y
          rw [h1] at h4
          cases h4
          refine ⟨F2, Ent.refl s2, ?_⟩
          show Rp X.K cl F2 (leafV k) e.1
          rw [h2]
          cases k with
          | none => exact .non
          | num i => exact .int i
          | text x => exact .str x
    | _ => exact p1.elim
  · subst ev
    cases rv
    obtain ⟨hs, hgd, hx, es, ep, vs, hdt, hsz, kv, hm⟩ := dct_full I1 ea
    refine iter_keys hs hgd hx hdt (pi_one (tk := s1.toks) I1 _ (turn_nk _ hdt) ⟨_, Heap.get?_push_size _ rfl, rfl, ?_⟩ hR)
    rw [hsz] <;> rfl⟩
end
end VS
namespace VS
open PySem PySem.Spec PyProof.Rows L2
/-! ### {elt for ..}, ints -/
def eSet (w : World) (D : Addr) : HO := SetO w D (fun _ => false) 0
section
variable {X : Cx}
theorem addI_ok {pins : List (Addr × Obj)} {σ : L2.St} {H : Hp} {s : Shared} {E : Value → Shared → Prop} {D : Addr} {S : Int → Bool} {n : Nat} {y : Int} {tk : Tok} {Q : Value → Shared → Prop} (I : Inv X pins σ H s) (hD : H D = some (SetO X.w D S n)) (room : n + 1 < scanBound)
    (h : ∀ s', Inv X pins σ (upd H D (SetO X.w D (fun j => S j || decide (j = y)) (if S y = true then n else n + 1))) s' → Q .none s') : wpAny (model X.prog X.w) X.A (call (.builtin "set.add") [.ref D, .int y tk]) Q E s := by
  refine setR_add (setO_get I hD) room fun h' sb new => ?_
  have he : ∃ u, h'.get? D = some u := by
    have ⟨o, _, _, _, ho, _⟩ := new
    exact ⟨o, ho⟩
  exact h _ (I.write (e := D) (t' := s.toks + 1) (by rw [hD]; trivial) (.inl rfl) (fun b u hb hu => (sb.2 b hb).trans hu) he (setO_new new))
/-- D the new set of ints -/
def tSi (w : World) (wi : TI) (g : TG) (tt : TT) (te : TE) (vs : List Nat) : TE := fun σ H Q => wi σ H fun J H1 => ∀ D, H1 D = none → ∃ W : Nat → Nat → Hp → Prop, (∃ m, W 0 m (upd H1 D (eSet w D))) ∧ ∀ i m H, W i m H →
  (J.stop i H ∧ Q (.ref D) H) ∨ (J.go i H ∧ ∃ Nx : Hp → Prop, (∀ H', Nx H' → ∃ m', m' < m ∧ W (i + 1) m' H') ∧ ∀ x H', J.yld i H x H' → g x (wipe σ vs) H' fun σ2 H2 => wipe σ2 vs = wipe σ vs ∧ tt σ2 H2 fun b H3 =>
    if b = true then te σ2 H3 fun y H4 => ∃ (c : Int) (S : Int → Bool) (n : Nat), y = .int c ∧ H4 D = some (SetO w D S n) ∧ n + 1 < scanBound ∧ Nx (upd H4 D (SetO w D (fun j => S j || decide (j = c)) (if S c = true then n else n + 1))) else Nx H3)
variable {elt tg iter : Expr} {ifs : List Expr} {scope : Scope} {own : List (PySem.Str × Nat)} {pos : Pos} {wi : TI} {g : TG} {tt : TT} {te : TE}
theorem pe_si (hc : X.calm = true) (hN : X.N.Nodup) (hi : PI X tg iter wi) (ok : BlkOk X.N X.env.scope scope own)
    (hg : ∀ (s : Shared) (H : Hp) (C : Addr) (cl : List (PySem.Str × Addr)) (fp : List Addr), PG (X.blk s H scope (compEnvC scope cl C X.env) fp) tg g) (ht : ∀ (s : Shared) (H : Hp) (C : Addr) (cl : List (PySem.Str × Addr)) (fp : List Addr), PTs (X.blk s H scope (compEnvC scope cl C X.env) fp) ifs tt)
    (he : ∀ (s : Shared) (H : Hp) (C : Addr) (cl : List (PySem.Str × Addr)) (fp : List Addr), PE (X.blk s H scope (compEnvC scope cl C X.env) fp) elt te) (hs : ∀ x, foldedSetIterable iter X.env x = pure x := by intro _; rfl) :
    PE X (.SetComp elt [⟨tg, iter, ifs, 0⟩] scope pos) (tSi X.w wi g tt te (own.map (·.2))) := by
  refine ⟨fun pins s σ H Q I h => ?_⟩
  rw [PpSet.eval_SetComp]
  have hfree : ∀ y ∈ scope.names, y.2 = .free → ∃ c, X.env.cells.lookup y.1 = some c := fun y hy e => (ok.free y hy e).elim (fun k => I.ok.has _ (.inl k)) (fun k => I.ok.has _ (.inr k))
  refine wpAny_comprehension_free rfl hs (closure_ok hfree) ok.kind (fun y hy e => by rw [ok.uniq y hy, e]) (thn (hi.run pins s σ H _ I h) fun xv s1 hx => thn hx fun itv s2 h2 => ?_)
  obtain ⟨it, fp, tn, J, H2, e, I2, T, st2, f2, q⟩ := h2
  subst e
  refine PpSet.newSet_ok (newEnv_comp ?_)
  generalize hD : s2.heap.objs.size = D
  have hDn : H2 D = none := I2.hok.fresh (Nat.le_of_eq hD)
  obtain ⟨W, ⟨m0, w0⟩, turn⟩ := q D hDn
  generalize hnew : s2.heap.push { cls := .type "set", dict := none, data := .set #[] 0 (.fresh 0 0 (!X.w.params.followText "set-order")) } = h3
  have keep3 : ∀ b o, s2.heap.get? b = some o → h3.get? b = some o := fun b o e => by rw [← hnew]; exact Heap.get?_push_of_some _ e
  have size3 : h3.objs.size = s2.heap.objs.size + 1 := by rw [← hnew, Heap.size_push]
  have I3 : Inv X pins σ (upd H2 D (eSet X.w D)) { s2 with heap := h3 } :=
    I2.laid (t' := s2.toks) keep3 (Nat.le_of_eq hD) (by subst hnew hD; exact setO_new (setR_fresh X.w))
  generalize hs3 : ({ s2 with heap := h3 } : Shared) = s3 at I3 ⊢
  have e3 : s3.heap = h3 := by rw [← hs3]
  have sz : ∀ b ∈ fp, b < s2.heap.objs.size := fun b hb => let ⟨o, e, _⟩ := T.obj _ _ st2 b hb; Heap.lt_size e
  have f3 : ∀ b ∈ fp, FpOk X pins (upd H2 D (eSet X.w D)) b ∧ b < s3.heap.objs.size := fun b hb =>
    ⟨⟨by rw [upd_ne (by rw [← hD]; exact Nat.ne_of_lt (sz b hb))]; exact (f2 b hb).1, (f2 b hb).2⟩, by rw [e3, size3]; exact Nat.lt_succ_of_lt (sz b hb)⟩
  have st3 : tn 0 s3.heap := T.keep _ _ _ st2 fun b _ o e => by rw [e3]; exact keep3 b o e
  have I4 := block_start I3 ok hN f3
  have pg := hg s3 (upd H2 D (eSet X.w D)) s3.heap.objs.size (cellsFrom (s3.heap.objs.size + 1) scope.names (cloFrom X.env.cells scope.names [])) fp
  have pt := ht s3 (upd H2 D (eSet X.w D)) s3.heap.objs.size (cellsFrom (s3.heap.objs.size + 1) scope.names (cloFrom X.env.cells scope.names [])) fp
  have pe := he s3 (upd H2 D (eSet X.w D)) s3.heap.objs.size (cellsFrom (s3.heap.objs.size + 1) scope.names (cloFrom X.env.cells scope.names [])) fp
  show codeAny _ _ (.compStart (.SetComp elt [⟨tg, iter, ifs, 0⟩] scope pos) 0 (.ref it) (.ref D) (compEnvC scope (cellsFrom (s3.heap.objs.size + 1) scope.names (cloFrom X.env.cells scope.names [])) s3.heap.objs.size X.env)) (compPost (model X.prog X.w) X.A X.xe _ _ (.ref D) s3.heap.objs.size) { s3 with heap := pushCells (s3.heap.push { cls := .type "dict", data := .dict #[] }) scope.names }
  generalize hce : compEnvC scope (cellsFrom (s3.heap.objs.size + 1) scope.names (cloFrom X.env.cells scope.names [])) s3.heap.objs.size X.env = ce at I4 pg pt pe ⊢
  have cL : ce.locals = s3.heap.objs.size := by subst hce; rfl
  generalize hH3 : upd H2 D (eSet X.w D) = H3 at I3 I4 pg pt pe w0 f3
  generalize hs4 : ({ s3 with heap := pushCells (s3.heap.push { cls := .type "dict", data := .dict #[] }) scope.names } : Shared) = s4 at I4 ⊢
  have st4 : tn 0 s4.heap := T.keep _ _ _ st3 fun b _ o e => by rw [← hs4]; exact pushCells_keeps _ _ _ _ (Heap.get?_push_of_some _ e)
  have stat : ∀ {σ' : L2.St} {H' : Hp} {s' : Shared}, Inv (X.blk s3 H3 scope ce fp) [] σ' H' s' → (∀ b ∈ fp, H' b = none) → ∀ b ∈ fp, FpOk (X.blk s3 H3 scope ce fp) [] H' b := fun I' hn b hb =>
    ⟨hn b hb, (I'.ok.exf b hb).1, I'.ok.exfs b hb, .inl hb, fun x c e => (I'.ok.exf b hb).2 x c e, fun p hp => absurd (show p ∈ ([] : List (Addr × Obj)) ++ [] from hp) (by simp)⟩
  refine (fun loop => PpSet.codeAny_compStart_set loop (T.self X.A 0 _ _ _ st4 loop)) ?_
  refine PpSet.compLoopS_any (fun n s' => ∃ i H', Inv (X.blk s3 H3 scope ce fp) [] (wipe σ (own.map (·.2))) H' s' ∧ tn i s'.heap ∧ (∀ b ∈ fp, H' b = none) ∧ W i n H') ?_ m0 ⟨0, H3, I4, st4, fun b hb => (f3 b hb).1.1, w0⟩
  rintro n s5 ⟨i, H5, I5, st5, n5, w5⟩
  rcases turn i n H5 w5 with ⟨stop, qq⟩ | ⟨go, Nx, hNx, step⟩
  · refine thnF (T.done (X.blk s3 H3 scope ce fp) rfl rfl rfl hc i [] s5 _ H5 (fun _ _ => False) I5 (stat I5 n5) st5 stop) fun r s6 ⟨hr, I6⟩ => ?_
    subst hr
    have I7 : Inv X pins σ H5 s6 := I3.call' (ch := fp) I6.os I6.base I6.hok I6.bare fun b hb => ⟨(f3 b hb).1.2.2.2.1, (f3 b hb).1.2.1, (f3 b hb).1.2.2.2.2.1, (f3 b hb).1.2.2.2.2.2⟩
    have nC : H5 s3.heap.objs.size = none := cL ▸ (show H5 ce.locals = none from I6.free)
    obtain ⟨m, hn, _⟩ := I6.loc
    obtain ⟨k0, k1, k2, k3, k4, k5⟩ := I3.fpOk (Nat.le_refl _) nC
    exact ⟨m, cL ▸ (show s6.heap.Ns ce.locals m from hn), fun h'' sb => ⟨.ref D, H5, I7.turned (t' := s6.toks) (fun b o hb e => (sb.2 b hb).trans e) k0 k1 k3 k4 k5, rfl, qq⟩⟩
  · refine thnF (T.item (X.blk s3 H3 scope ce fp) rfl rfl rfl hc i [] s5 _ H5 (fun _ _ => False) I5 (stat I5 n5) st5 go) fun r s6 ⟨u, hr, h6⟩ => ?_
    subst hr
    refine thnF h6 fun _ s7 ⟨x, H7, I7, r7, y7, st7, n7⟩ => ?_
    refine thnF (pg.run _ s7 _ H7 x u _ (I7.pinned (stat I7 n7) (T.obj _ _ st7)) r7 (step x H7 y7)) fun _ s8 ⟨σ8, H8, I8, hw8, q8⟩ => ?_
    refine thnF (pt.run _ s8 σ8 H8 _ I8 q8) fun b s9 ⟨H9, I9, q9⟩ => ?_
    have fin : ∀ {s' : Shared} {H' : Hp}, Inv (X.blk s3 H3 scope ce fp) ([] ++ pinsAt fp s7.heap) σ8 H' s' → Nx H' → ∃ m, m < n ∧ ∃ i H', Inv (X.blk s3 H3 scope ce fp) [] (wipe σ (own.map (·.2))) H' s' ∧ tn i s'.heap ∧ (∀ b ∈ fp, H' b = none) ∧ W i m H' := fun {s' H'} I' nx => by
      obtain ⟨m', hm, w'⟩ := hNx H' nx
      have pin' : ∀ b ∈ fp, ∀ o, s7.heap.get? b = some o → s'.heap.get? b = some o ∧ H' b = none := fun b hb o e =>
        have z := I'.pin (b, o) (List.mem_append_right _ (List.mem_append_right _ (mem_pinsAt hb e)))
        ⟨z.1, z.2.1⟩
      refine ⟨m', hm, i + 1, H', (I'.unpinned (pins := [])).weak (by rw [← hw8, wipe_length]) (fun j v e => (wipe_some (by rw [← hw8] at e; exact e)).1), T.keep _ _ _ st7 fun b hb o e => (pin' b hb o e).1, fun b hb => ?_, w'⟩
      obtain ⟨o, e, _⟩ := T.obj _ _ st7 b hb
      exact (pin' b hb o e).2
    cases b with
    | false =>
      simp only [Bool.false_eq_true, if_false] at q9 ⊢
      exact fin I9 q9
    | true =>
      simp only [if_true] at q9 ⊢
      refine thnF (pe.run _ s9 σ8 H9 _ I9 q9) fun z s10 ⟨yv, H10, I10, r10, cb, S0, n0, ey, hD10, hz10, nx⟩ => ?_
      subst ey
      obtain ⟨tk, rfl⟩ := r10
      exact addI_ok (X := X.blk s3 H3 scope ce fp) I10 hD10 hz10 fun s11 I11 => fin I11 nx
end
/-! ### sorted({..}) -/
def insU (k : Int) : List Int → List Int
  | [] => [k]
  | x :: l => if k < x then k :: x :: l else if k = x then x :: l else x :: insU k l
def setL (ns : List Int) : List Int := ns.foldr insU []
theorem mem_insU {k j : Int} : ∀ {l : List Int}, j ∈ insU k l ↔ j = k ∨ j ∈ l
  | [] => by simp [insU]
  | x :: l => by
    unfold insU
    split
    · simp
    · split
      · rename_i h; subst h; simp
      · rw [List.mem_cons, mem_insU, List.mem_cons]
        constructor
        · rintro (h | h | h) <;> simp [h]
        · rintro (h | h | h) <;> simp [h]
theorem insU_lt {k : Int} : ∀ {l : List Int}, l.Pairwise (· < ·) → (insU k l).Pairwise (· < ·)
  | [], _ => by simp [insU]
  | x :: l, h => by
    obtain ⟨h1, h2⟩ := List.pairwise_cons.mp h
    unfold insU
    split
    · rename_i hk
      refine List.pairwise_cons.mpr ⟨fun y hy => ?_, h⟩
      rcases List.mem_cons.mp hy with rfl | hy
      · exact hk
      · exact Int.lt_trans hk (h1 y hy)
    · split
      · exact h
      · refine List.pairwise_cons.mpr ⟨fun y hy => ?_, insU_lt h2⟩
        rcases mem_insU.mp hy with rfl | hy
        · omega
        · exact h1 y hy
theorem mem_setL {j : Int} : ∀ {ns : List Int}, j ∈ setL ns ↔ j ∈ ns
  | [] => by simp [setL]
  | k :: ns => by
    show j ∈ insU k (setL ns) ↔ _
    rw [mem_insU, mem_setL, List.mem_cons]
theorem setL_lt : ∀ ns : List Int, (setL ns).Pairwise (· < ·)
  | [] => .nil
  | k :: ns => insU_lt (setL_lt ns)
theorem lt_uniq : ∀ {l m : List Int}, l.Pairwise (· < ·) → m.Pairwise (· < ·) → (∀ k, k ∈ l ↔ k ∈ m) → l = m
  | [], [], _, _, _ => rfl
  | [], y :: m, _, _, h => by have := (h y).mpr (by simp); simp at this
  | x :: l, [], _, _, h => by have := (h x).mp (by simp); simp at this
  | x :: l, y :: m, hl, hm, h => by
    obtain ⟨a1, a2⟩ := List.pairwise_cons.mp hl
    obtain ⟨b1, b2⟩ := List.pairwise_cons.mp hm
    have e : x = y := by
      have h1 := (h x).mp (by simp)
      have h2 := (h y).mpr (by simp)
      rcases List.mem_cons.mp h1 with h1 | h1
      · exact h1
      · rcases List.mem_cons.mp h2 with h2 | h2
        · exact h2.symm
        · have := b1 x h1; have := a1 y h2; omega
    subst e
    rw [lt_uniq a2 b2 fun k => ?_]
    constructor
    · intro hk
      rcases List.mem_cons.mp ((h k).mp (List.mem_cons_of_mem _ hk)) with rfl | z
      · have := a1 k hk; omega
      · exact z
    · intro hk
      rcases List.mem_cons.mp ((h k).mpr (List.mem_cons_of_mem _ hk)) with rfl | z
      · have := b1 k hk; omega
      · exact z
def setOfD (l : List D) : R D := match intsOf l with | some ns => .ok (.lst ((setL ns).map D.int)) | none => .bad
def eSortSet (vs : List Nat) (fi : Sl → R (List D)) (t : D → Sl → R Sl) (tt : Sl → R Bool) (fe : Sl → R D) : Sl → R D := fun s => ((fi s).bind fun ds => if ds.length < 64 then strict (lcLoop t tt fe (wipeS s vs) ds) else .bad).bind setOfD
theorem intsOf_snoc : ∀ {l : List D} {ns : List Int} {c : Int}, intsOf l = some ns → intsOf (l ++ [.int c]) = some (ns ++ [c])
  | [], ns, c, h => by simp only [intsOf] at h; cases h; rfl
  | d :: l, ns, c, h => by
    cases d <;> simp only [intsOf] at h <;> try cases h
    cases q : intsOf l with
    | none => rw [q] at h; cases h
    | some m =>
      rw [q] at h
      cases h
      show intsOf (D.int _ :: (l ++ [.int c])) = _
      simp only [intsOf]
      rw [intsOf_snoc q]
      rfl
theorem intsOf_app : ∀ {l m : List D} {ns : List Int}, intsOf (l ++ m) = some ns → ∃ a b, intsOf l = some a ∧ intsOf m = some b ∧ ns = a ++ b
  | [], m, ns, h => ⟨[], ns, rfl, h, rfl⟩
  | d :: l, m, ns, h => by
    cases d <;> simp only [List.cons_append, intsOf] at h <;> try cases h
    rename_i i
    cases q : intsOf (l ++ m) with
    | none => rw [q] at h; cases h
    | some k =>
      rw [q] at h
      cases h
      obtain ⟨a, b, h1, h2, h3⟩ := intsOf_app q
      exact ⟨i :: a, b, by simp only [intsOf]; rw [h1]; rfl, h2, by rw [h3]; rfl⟩
section
variable {X : Cx} {cl : Ctx} {En : Ety} {W : WX} {ro : Bool} {OB O : List Nat} {elt tg iter e : Expr} {ifs : List Expr} {scope : Scope} {own : List (Str × Nat)} {pos spos : Pos} {fi : Sl → R (List D)} {t : D → Sl → R Sl} {tt : Sl → R Bool} {fe : Sl → R D} {is : List Nat}
/-- what the set comprehension hands over -/
def tSiV (K : PySem.W.Frag) (w : World) (vs : List Nat) (fi : Sl → R (List D)) (t : D → Sl → R Sl) (tt : Sl → R Bool) (fe : Sl → R D) (cl : Ctx) (En : Ety) (W : WX) (O : List Nat) : TE := fun σ H Q => ∃ s F, SlOk K cl En O s σ F H ∧
  Pst K cl W σ F H (fun l => ∃ ns, intsOf l = some ns ∧ ∀ a n F' H', Ent F H F' H' → H a = none → H' a = some (SetO w a (fun k => decide (k ∈ ns)) n) → F' a = none → n < 64 → Q (.ref a) H')
    ((fi s).bind fun ds => if ds.length < 64 then strict (lcLoop t tt fe (wipeS s vs) ds) else .bad)
theorem tSi_V {K : PySem.W.Frag} (X' : Cx) (hK : X'.K = X.K) {vs : List Nat} (hs : ∀ j ∈ is, j ∈ vs) (hme : En.me = none ∨ 0 ∉ vs) (σ : L2.St) (H : Hp) (Q : VK) (h : tSiV X.K X.w vs fi t tt fe cl En W O σ H Q) :
    tSi X.w (tIt X cl En W O fi) (tG X' cl En O is t) (tT X' cl En W0 O tt) (tV X' cl En W0 O fe) vs σ H Q := by
  obtain ⟨s, F, S, p⟩ := h
  refine ⟨s, F, S, p.bind fun ds hds p1 J F1 H1 e1 wk Dl hD => ?_⟩
  by_cases hl : ds.length < 64
  · rw [if_pos hl] at p1
    cases q : lcLoop t tt fe (wipeS s vs) ds with
    | exc c fs => rw [q] at p1; exact p1.elim
    | bad => rw [q] at p1; exact p1.elim
    | ok fl =>
      rw [q] at p1
      obtain ⟨all, hall, p1⟩ : ∃ ns, intsOf fl = some ns ∧ ∀ a n F' H', Ent F H F' H' → H a = none → H' a = some (SetO X.w a (fun k => decide (k ∈ ns)) n) → F' a = none → n < 64 → Q (.ref a) H' := p1
      have S1 := S.grow e1
      have nown : ∀ i ∈ O, ∀ d, s[i]? = some (some d) → σ[i]? ≠ some (some (.ref Dl)) := fun i hi d hd w => by
        obtain ⟨a, o, g1, g2, _⟩ := S1.own i d hi hd
        rw [g1] at w
        cases w
        rw [hD] at g2
        cases g2
      have h0D : En.H0 Dl = none := S1.ent.h.free hD
      have F1D : F1 Dl = none := e1.fh.free hD
      have e0 : eSet X.w Dl = SetO X.w Dl (fun k => decide (k ∈ ([] : List Int))) 0 := by unfold eSet; congr 1
      refine ⟨fun i m H' => m = ds.length - i ∧ i ≤ ds.length ∧ ∃ F' acc n dacc r, Ent F1 H1 F' H' ∧ SlOk X.K cl En O s σ F' H' ∧ H' Dl = some (SetO X.w Dl (fun k => decide (k ∈ acc)) n) ∧ F' Dl = none ∧ intsOf dacc = some acc ∧ n ≤ i ∧ lcLoop t tt fe (wipeS s vs) (ds.drop i) = .ok r ∧ fl = dacc ++ r,
        ⟨ds.length, rfl, Nat.zero_le _, F1, [], 0, [], fl, Ent.cell e1.fh hD, S1.other h0D F1D nown, by rw [← e0]; exact upd_same, F1D, rfl, Nat.le_refl _, by simpa using q, rfl⟩, ?_⟩
      rintro i m H' ⟨hm, hi, F', acc, n, dacc, r, en, S', hA, hF, ra, hz, hr, hfl⟩
      cases hd : ds[i]? with
      | none =>
        have hle : ds.length ≤ i := List.getElem?_eq_none_iff.mp hd
        have : i = ds.length := by omega
        subst this
        rw [List.drop_length] at hr
        cases hr
        rw [List.append_nil] at hfl
        subst hfl
        rw [ra] at hall
        cases hall
        exact .inl ⟨wk.1 F' H' en.f S'.fh, p1 Dl n F' H' (e1.trans en) (e1.h.free hD) hA hF (by omega)⟩
      | some d =>
        obtain ⟨hlt, hd'⟩ := List.getElem?_eq_some_iff.mp hd
        obtain ⟨go, yl⟩ := wk.2 i d F' H' en.f S'.fh hd
        rw [List.drop_eq_getElem_cons hlt, hd'] at hr
        unfold lcLoop at hr
        refine .inr ⟨go, fun H2 => ∃ m', m' < m ∧ (m' = ds.length - (i + 1) ∧ i + 1 ≤ ds.length ∧ ∃ F' acc n dacc r, Ent F1 H1 F' H2 ∧ SlOk X.K cl En O s σ F' H2 ∧ H2 Dl = some (SetO X.w Dl (fun k => decide (k ∈ acc)) n) ∧ F' Dl = none ∧ intsOf dacc = some acc ∧ n ≤ i + 1 ∧ lcLoop t tt fe (wipeS s vs) (ds.drop (i + 1)) = .ok r ∧ fl = dacc ++ r), fun _ h => h, fun x H2 y => ?_⟩
        obtain ⟨F2, en2, rx⟩ := yl x H2 y
        have S2 := S'.grow en2
        have hD2 := en2.h _ _ hA
        have hF2 : F2 Dl = none := en2.fr _ (by rw [hA]; simp) hF
        refine ⟨wipeS s vs, F2, d, by rw [hK]; exact S2.wiped vs hme, by rw [hK]; exact rx, ?_⟩
        cases ht : t d (wipeS s vs) with
        | exc c fs => rw [ht] at hr; cases hr
        | bad => rw [ht] at hr; cases hr
        | ok s1 =>
          rw [ht] at hr
          intro σ2 Sx o2
          refine ⟨wipe_only o2 hs, s1, F2, Sx, ?_⟩
          have hr : ((tt s1).bind fun b => if b then (fe s1).bind fun y => (lcLoop t tt fe (wipeS s vs) (ds.drop (i + 1))).bind fun r => .ok (y :: r) else lcLoop t tt fe (wipeS s vs) (ds.drop (i + 1))) = .ok r := hr
          cases hb : tt s1 with
          | exc c fs => rw [hb] at hr; cases hr
          | bad => rw [hb] at hr; cases hr
          | ok b =>
            rw [hb] at hr
            intro F3 H3 e3
            have S3 := S2.grow (by exact e3)
            have hD3 := e3.h _ _ hD2
            have hF3 : F3 Dl = none := e3.fr _ (by rw [hD2]; simp) hF2
            cases b with
            | false =>
              exact iteF ⟨ds.length - (i + 1), by omega, rfl, by omega, F3, acc, n, dacc, r, (en.trans en2).trans e3, S3, hD3, hF3, ra, by omega, hr, hfl⟩
            | true =>
              refine iteT ⟨s1, F3, Sx.grow e3, ?_⟩
              have hr : ((fe s1).bind fun y => (lcLoop t tt fe (wipeS s vs) (ds.drop (i + 1))).bind fun r => .ok (y :: r)) = .ok r := hr
              cases hy : fe s1 with
              | exc c fs => rw [hy] at hr; cases hr
              | bad => rw [hy] at hr; cases hr
              | ok yd =>
                rw [hy] at hr
                cases hl2 : lcLoop t tt fe (wipeS s vs) (ds.drop (i + 1)) with
                | exc c fs => rw [hl2] at hr; cases hr
                | bad => rw [hl2] at hr; cases hr
                | ok r2 =>
                  rw [hl2] at hr
                  cases hr
                  intro v F4 H4 e4 rv
                  rw [hK] at rv
                  have hD4 := e4.h _ _ hD3
                  have hF4 : F4 Dl = none := e4.fr _ (by rw [hD3]; simp) hF3
                  have S4 := S3.grow e4
                  have en4 := ((en.trans en2).trans e3).trans e4
                  obtain ⟨c, rfl⟩ : ∃ c, yd = .int c := by
                    rw [hfl] at hall
                    obtain ⟨a, b, _, h2, _⟩ := intsOf_app hall
                    cases yd <;> simp only [intsOf] at h2 <;> first | exact ⟨_, rfl⟩ | cases h2
                  cases rv
                  refine ⟨c, fun k => decide (k ∈ acc), n, rfl, hD4, Nat.lt_trans (by omega : n + 1 < 65) (by decide), ds.length - (i + 1), by omega, rfl, by omega, F4, acc ++ [c], (if decide (c ∈ acc) = true then n else n + 1), dacc ++ [.int c], r2, en4.set hD hF4, S4.other h0D hF4 nown, ?_, hF4, intsOf_snoc ra, by split <;> omega, rfl, by rw [hfl]; simp⟩
                  rw [upd_same]
                  congr 2
                  funext k
                  simp
  · rw [if_neg hl] at p1; exact p1.elim
/-- sorted({elt for ..}) -/
theorem vo_sortSet {p : Pos} {cpos : Pos} (hc : X.calm = true) (hN : X.N.Nodup) (hm : X.mg "sorted" = none) (hi : VI X cl En W O tg iter fi) (ok : BlkOk X.N X.env.scope scope own)
    (hg : ∀ (s : Shared) (H : Hp) (C : Addr) (cc : List (Str × Addr)) (fp : List Addr), VG (X.blk s H scope (compEnvC scope cc C X.env) fp) cl En O is tg t) (ht : ∀ (s : Shared) (H : Hp) (C : Addr) (cc : List (Str × Addr)) (fp : List Addr), VTs (X.blk s H scope (compEnvC scope cc C X.env) fp) cl En W0 O ifs tt)
    (he : ∀ (s : Shared) (H : Hp) (C : Addr) (cc : List (Str × Addr)) (fp : List Addr), VE (X.blk s H scope (compEnvC scope cc C X.env) fp) cl En W0 O elt fe) (hsub : ∀ j ∈ is, j ∈ own.map (·.2) := by decide) (hmw : En.me = none ∨ 0 ∉ own.map (·.2) := by first | exact .inl rfl | exact .inr (by decide)) (hs : ∀ x, foldedSetIterable iter X.env x = pure x := by intro _; rfl)
    (hgl : Gl X "sorted" := by rfl) (hst : starEach [.SetComp elt [⟨tg, iter, ifs, 0⟩] scope pos] X.env = (false, eval (.SetComp elt [⟨tg, iter, ifs, 0⟩] scope pos) X.env) :: starEach [] X.env := by rfl) (hpl : (backTo cpos (starEach [] X.env)).any (·.1) = false := by rfl) :
    VO X cl En W O (.Call (.Name "sorted" p) [.SetComp elt [⟨tg, iter, ifs, 0⟩] scope pos] [] cpos) (eSortSet (own.map (·.2)) fi t tt fe) :=
  PE.weak (pe_callB (cr_sortedSet hc) hgl hm (by decide +kernel) (pa_cons (PE.weak (pe_si (g := tG X cl En O is t) (tt := tT X cl En W0 O tt) (te := tV X cl En W0 O fe) hc hN hi ok (fun s H C cc fp => hg s H C cc fp) (fun s H C cc fp => ht s H C cc fp) (fun s H C cc fp => he s H C cc fp) hs) fun σ H Q h => tSi_V (K := X.K) X rfl hsub hmw σ H Q h) pa_nil hst) (by decide) (by decide) hst hpl) fun σ H Q ⟨s, F, S, p⟩ => by
    refine ⟨s, F, S, p.bind fun l hl p2 => ?_⟩
    unfold setOfD at p2
    cases q : intsOf l with
    | none => rw [q] at p2; exact p2.elim
    | some ns =>
      rw [q] at p2
      have p2 : ∀ a o F' H', Ent F H F' H' → H a = none → H' a = some o → F' a = none → Cell X.K cl F' a o (.lst ((setL ns).map D.int)) → Q (.ref a) H' := p2
      refine ⟨ns, rfl, fun a n F' H' en h1 h2 h3 h4 => ⟨a, _, n, rfl, h2, h4, fun ms b g1 g2 g3 g4 => ?_⟩⟩
      have e : ms = setL ns := lt_uniq g1 (setL_lt ns) fun k => by rw [g2 k, mem_setL]; simp
      subst e
      refine p2 b _ F' _ (en.trans (Ent.cell en.fh g4)) (en.h.free g4) upd_same (en.fh.free g4) (.lst ?_)
      generalize setL ns = m
      induction m with
      | nil => exact .nil
      | cons i m ih => exact .cons (.int i) ih
end
end VS
namespace VS
open PySem PySem.Spec PyProof.Rows L2 ItX
/-! ### own special methods: one call -/
def E00 : XK := fun _ _ _ => False
section
variable {X : Cx} {cl : Ctx} {En : Ety} {W : WX} {O : List Nat} {e o tg : Expr} {f g : Sl → R D} {pins : List (Addr × Obj)} {σ : L2.St} {H : Hp} {s : Shared}
theorem cx_false {u : Value} {s' : Shared} (h : L2.CX X.prog X.w X.stack H s E00 u s') : False := by
  obtain ⟨_, _, _, _, _, _, _, _, _, _, _, _, h⟩ := h
  exact h
/-- a def with a plain promise, called from within a built-in -/
theorem spec_run {k : Nat} {fa : Addr} {fd : FuncData} {ps : List Str} {A1 : Around} {Fd : List D → R D} {E : Value → Shared → Prop} {F : Hp} {ds : List D} {d : D} {vs : List V} {us : List Value} (G : FnOk X.prog X.w X.K X.mg X.base (L2.CX X.prog X.w) k fa fd ps (spV X.K cl ps.length Fd)) (bd : Binds X.K fd ps []) (sb : Sub X k A1)
    (I : Inv X pins σ H s) (rv : Vals vs us) (sm : Same F H) (r : RpA X.K cl F vs ds) (hl : ds.length = ps.length) (hd : Fd ds = .ok d) :
    wpAny (model X.prog X.w) A1 (call (.ref fa) us) (fun u s' => ∃ v F' H', Inv X pins σ H' s' ∧ RelV v u ∧ Ent F H F' H' ∧ Rp X.K cl F' v d) E s := by
  have e0 : Env0 X.prog X.w X.K X.mg X.base A1 X.stack s H := by
    have e := I.env0
    exact ⟨by rw [sb.fr]; exact e.frames, e.mod, e.bs, e.bsz, e.funs, e.frf, e.hok, e.bare⟩
  have hlen : us.length = ps.length := by rw [← rv.length, r.length, hl]
  refine wpAny_call (codeAny_mono (G.run A1 X.stack s H ⟨us, []⟩ us vs (fun v H' => ∃ F', Ent F H F' H' ∧ Rp X.K cl F' v d) E00 sb.room e0 (by
    have := bd s us I.kIn (by simpa using hlen)
    simpa using this) rv ⟨F, ds, sm, r, hl, by rw [hd]; exact fun v F' H' en rr => ⟨F', en, rr⟩⟩) fun r s' hq => ?_)
  cases r with
  | error e => exact (cx_false hq).elim
  | ok fl =>
    cases fl with
    | ret u =>
      obtain ⟨v, H', I', rv', F', en, rr⟩ := I.after hq
      exact ⟨v, F', H', I', rv', en, rr⟩
    | next => exact False.elim hq
    | brk => exact False.elim hq
    | cont => exact False.elim hq
/-- a class with an own special method -/
structure Spec (X : Cx) (cl : Ctx) (C fa : Addr) (mn : String) (n k : Nat) (Fd : List D → R D) : Prop where
  at' : PySem.W.findIn X.K (.ref C) (Str.ofString mn) = some (some (.ref fa))
  isf : PySem.W.isFn X.K (.ref fa) = true
  fn : ∃ fd ps, ps.length = n ∧ FnOk X.prog X.w X.K X.mg X.base (L2.CX X.prog X.w) k fa fd ps (spV X.K cl n Fd) ∧ Binds X.K fd ps []
theorem Spec.run {C fa : Addr} {mn : String} {n k : Nat} {Fd : List D → R D} (T : Spec X cl C fa mn n k Fd) {A1 : Around} {E : Value → Shared → Prop} {F : Hp} {ds : List D} {d : D} {vs : List V} {us : List Value} (sb : Sub X k A1)
    (I : Inv X pins σ H s) (rv : Vals vs us) (sm : Same F H) (r : RpA X.K cl F vs ds) (hl : ds.length = n) (hd : Fd ds = .ok d) :
    wpAny (model X.prog X.w) A1 (call (.ref fa) us) (fun u s' => ∃ v F' H', Inv X pins σ H' s' ∧ RelV v u ∧ Ent F H F' H' ∧ Rp X.K cl F' v d) E s := by
  obtain ⟨fd, ps, rfl, G, bd⟩ := T.fn
  exact spec_run G bd sb I rv sm r hl hd
/-! #### len(o) -/
def okI (r : R D) : R D := match r with | .ok (.int i) => if 0 ≤ i ∧ i < 2 ^ 63 then .ok (.int i) else .bad | _ => .bad
def lenOwn (c : String) (Fd : List D → R D) : D → R D := fun d => match d with
  | .ins c' gs => if c' = c then okI (Fd [.ins c' gs]) else .bad
  | _ => .bad
theorem lenOwn_ok {c : String} {Fd : List D → R D} {d y : D} (h : lenOwn c Fd d = .ok y) : ∃ gs i, d = .ins c gs ∧ Fd [.ins c gs] = .ok (.int i) ∧ (0 ≤ i ∧ i < 2 ^ 63) ∧ y = .int i := by
  unfold lenOwn at h
  split at h
  · split at h
    · rename_i c' gs hc
      subst hc
      unfold okI at h
      split at h
      · split at h
        · rename_i i hf hi
          cases h
          exact ⟨gs, i, rfl, hf, hi, rfl⟩
        · cases h
      · cases h
    · cases h
  · cases h
theorem nox_lenOwn {c : String} {Fd : List D → R D} : NoX1 (lenOwn c Fd) := fun x c' fs h => by
  unfold lenOwn at h
  split at h
  · split at h
    · unfold okI at h
      split at h
      · split at h <;> cases h
      · cases h
    · cases h
  · cases h
theorem len_raw {C fa a : Addr} {c : String} {k : Nat} {Fd : List D → R D} {A1 : Around} {E : Value → Shared → Prop} {F : Hp} {gs : List (String × D)} {i : Int} {Q : Value → Shared → Prop} (T : Spec X cl C fa "__len__" 1 k Fd) (hcl : cl c = some C) (sb : Sub X (k + 1) A1) (I : Inv X pins σ H s)
    (sm : Same F H) (r : Rp X.K cl F (.ref a) (.ins c gs)) (hi : 0 ≤ i ∧ i < 2 ^ 63) (hd : Fd [.ins c gs] = .ok (.int i)) (h : ∀ s' F' H', Inv X pins σ H' s' → Ent F H F' H' → ∀ t, Q (.int i t) s') :
    wpAny (model X.prog X.w) A1 (call (.builtin "len") [.ref a]) Q E s := by
  obtain ⟨a', C', dx, fs, e1, h1, h2, h3⟩ := RpB.ins sm (.inl r : RpB X.K cl F H _ _)
  cases e1
  rw [hcl] at h1
  cases h1
  obtain ⟨mA, J, _⟩ := ins_get I.hok h2
  obtain ⟨od, J, _⟩ := J.look
  obtain ⟨m, hF⟩ := I.fr
  refine PySem.W.len_K hF I.ok.mod.kin J T.at' T.isf ?_
  refine wpAny_mono (T.run (E := E) (Sub.in1 sb) I (vs := [.ref a]) (.cons rfl .nil) sm (.one r) rfl hd) (fun u s' ⟨v, F', H', I', rv, en, rr⟩ => ?_) fun _ _ z => z
  cases rr
  obtain ⟨t, rfl⟩ := rv
  exact ⟨hi, h _ F' H' (I'.tok _) en _⟩
def rE1 (K : PySem.W.Frag) (cl : Ctx) (g : D → R D) : V → Hp → VK → Prop := fun x H Q => ∃ F dx d, Same F H ∧ Rp K cl F x dx ∧ g dx = .ok d ∧ ∀ v F' H', Ent F H F' H' → Rp K cl F' v d → Q v H'
theorem ig_lenOwn {C fa : Addr} {c : String} {k : Nat} {Fd : List D → R D} (T : Spec X cl C fa "__len__" 1 k Fd) (hcl : cl c = some C) (hr : Room (k + 1) X.A) : CallR X (.builtin "len") (c1 (rE1 X.K cl (lenOwn c Fd))) := by
  intro pins s σ H xs us Q I r ⟨x, ex, F, dx, d, sm, r1, hg, q⟩
  subst ex
  obtain ⟨gs, i, rfl, hd, hi, rfl⟩ := lenOwn_ok hg
  obtain ⟨a, C', dx, fs, rfl, _⟩ := RpB.ins sm (.inl r1 : RpB X.K cl F H _ _)
  obtain ⟨u, rfl, ru⟩ := vals1 r
  cases ru
  refine len_raw T hcl ⟨hr, rfl⟩ I sm r1 hi hd fun s' F' H' I' en t => ?_
  exact ⟨.int i, H', I', ⟨t, rfl⟩, q _ F' H' en (.int i)⟩
theorem ve_len {C fa : Addr} {c : String} {k : Nat} {Fd : List D → R D} {p pos : Pos} (T : Spec X cl C fa "__len__" 1 k Fd) (hcl : cl c = some C) (hr : Room (k + 1) X.A) (hm : X.mg "len" = none) (ha : VE X cl En W O e f)
    (hg : Gl X "len" := by rfl) (he : starEach [e] X.env = (false, eval e X.env) :: starEach [] X.env := by rfl) (hpl : (backTo pos (starEach [] X.env)).any (·.1) = false := by rfl) : VE X cl En W O (.Call (.Name "len" p) [e] [] pos) (e1 (lenOwn c Fd) f) :=
  PE.weak (pe_callB (ig_lenOwn T hcl hr) hg hm (by decide +kernel) (pa_cons ha pa_nil he) (by decide) (by decide) he hpl) fun σ H Q ⟨s, F, S, p⟩ => ⟨s, F, S, p.bind fun d _ p1 v F1 H1 e1 r1 => by
    cases q : lenOwn c Fd d with
    | ok y => rw [q] at p1; exact ⟨v, rfl, F1, d, y, e1.fh, r1, q, fun v F' H' en rr => p1 v F' H' (e1.trans en) rr⟩
    | exc c' fs => exact (nox_lenOwn _ _ _ q).elim
    | bad => rw [q] at p1; exact p1.elim⟩
/-! #### list(o), o of a class whose __iter__ is «return iter(self.f)» and that has a __len__ -/
theorem iter_raw {C fi a dx l : Addr} {fn : String} {fs : List (Str × V)} {vs : List V} {A1 : Around} {E : Value → Shared → Prop} {Q : Value → Shared → Prop} (T : IterDef X.K X.mg C fi fn) (sb : Sub X 2 A1) (I : Inv X pins σ H s) (ea : H a = some (.ins C dx fs)) (hl : fs.lookup (Str.ofString fn) = some (.ref l)) (hvs : H l = some (.lst vs))
    (h : ∀ it s', Inv X pins σ (upd H it (ItO l it 0)) s' → H it = none → s.heap.objs.size ≤ it → Q (.ref it) s') : wpAny (model X.prog X.w) A1 (pyIter (.ref a)) Q E s := by
  obtain ⟨m, fr⟩ := I.fr
  obtain ⟨mA, OM, _⟩ := ins_get I.hok ea
  obtain ⟨od, J, _⟩ := OM.look
  obtain ⟨st, fd, qn, p1, p2, p3, p4, p5, FF, sc, k1, k2, bd, eb⟩ := T.ex
  obtain ⟨oc, od2, kV, doc, pm, an, cdv, ct, osl, rfl, lk, hcd⟩ := FF.ex
  have e0 : Env0 X.prog X.w X.K X.mg X.base A1 X.stack s H := by
    have e := I.env0
    exact ⟨by rw [sb.fr]; exact e.frames, e.mod, e.bs, e.bsz, e.funs, e.frf, e.hok, e.bare⟩
  refine PySem.W.owit_iter fr I.ok.mod.kin J T.it T.isf (wpAny_call ?_)
  refine codeAny_mono (call_once (CX := fun _ _ _ _ _ _ => False) (E := E0) (vs := [.ref a]) (us := [.ref a]) (Q := fun v H' => ∃ it, v = .ref it ∧ H' = upd H it (ItO l it 0) ∧ H it = none ∧ s.heap.objs.size ≤ it) lk hcd sc rfl sb.room e0 (bd s [.ref a] I.kIn rfl) (.cons rfl .nil) fun _ => ?_) fun r s2 hq => ?_
  · rw [eb]
    exact ⟨_, pss_one (ps_ret (pe_callB call_iterN (by exact k2) (by exact T.iter) (by decide +kernel) (pa_cons (pe_fld (pe_var (i := 0) (x := "self") rfl (.inl k1)) rfl) pa_nil))),
      ⟨.ref a, rfl, a, C, dx, fs, .ref l, rfl, ea, T.cl, T.no, hl, l, vs, rfl, .inl (.inl hvs), fun it n1 n2 => ⟨it, rfl, rfl, n1, n2⟩⟩⟩
  · cases r with
    | error e => exact False.elim hq
    | ok fl =>
      cases fl with
      | next => exact False.elim hq
      | brk => exact False.elim hq
      | cont => exact False.elim hq
      | ret u =>
        obtain ⟨v, H', I2, rv, it, rfl, eH, n1, n2⟩ := I.after hq
        cases rv
        subst eH
        have eo := itO_get I2 upd_same
        have hT : s2.TypeIs (.ref it) "list_iterator" := ⟨_, eo, rfl⟩
        show PySem.W.OwitIt _ _ _ _ (.ref it) s2
        unfold PySem.W.OwitIt
        exact wpAny_specialOf (name := Str.ofString "__next__") hT PySem.slot_listiter_next.lookup (h it s2 I2 n1 n2)
def listOwn (c fn : String) (Fl : List D → R D) : D → R D := fun d => match d with
  | .ins c' gs => if c' = c then (match gs.lookup fn with
    | some (.lst l) => (match Fl [.ins c' gs] with | .ok (.int i) => if 0 ≤ i ∧ i ≤ 16000000 then .ok (.lst l) else .bad | _ => .bad)
    | _ => .bad) else .bad
  | _ => .bad
theorem listOwn_ok {c fn : String} {Fl : List D → R D} {d y : D} (h : listOwn c fn Fl d = .ok y) : ∃ gs l i, d = .ins c gs ∧ gs.lookup fn = some (.lst l) ∧ Fl [.ins c gs] = .ok (.int i) ∧ (0 ≤ i ∧ i ≤ 16000000) ∧ y = .lst l := by
  unfold listOwn at h
  split at h
  · split at h
    · rename_i c' gs hc
      subst hc
      split at h
      · rename_i l hl
        split at h
        · split at h
          · rename_i i hf hi
            cases h
            exact ⟨gs, l, i, rfl, hl, hf, hi, rfl⟩
          · cases h
        · cases h
      · cases h
    · cases h
  · cases h
theorem nox_listOwn {c fn : String} {Fl : List D → R D} : NoX1 (listOwn c fn Fl) := fun x c' fs h => by
  unfold listOwn at h
  split at h
  · split at h
    · split at h
      · split at h
        · split at h <;> cases h
        · cases h
      · cases h
    · cases h
  · cases h
def rEO1 (K : PySem.W.Frag) (cl : Ctx) (g : D → R D) : V → Hp → VK → Prop := fun x H Q => ∃ F dx d, Same F H ∧ Rp K cl F x dx ∧ g dx = .ok d ∧ ∀ a o F' H', Ent F H F' H' → H a = none → H' a = some o → F' a = none → Cell K cl F' a o d → Q (.ref a) H'
theorem hint_own {C fa a : Addr} {c : String} {k : Nat} {Fd : List D → R D} {A1 : Around} {E : Value → Shared → Prop} {F : Hp} {gs : List (String × D)} {i : Int} {Q : Bool → Shared → Prop} (T : Spec X cl C fa "__len__" 1 k Fd) (hcl : cl c = some C) (sb : Sub X (k + 1) A1) (I : Inv X pins σ H s)
    (sm : Same F H) (r : Rp X.K cl F (.ref a) (.ins c gs)) (hi : 0 ≤ i ∧ i ≤ 16000000) (hd : Fd [.ins c gs] = .ok (.int i)) (h : ∀ b s' F' H', Inv X pins σ H' s' → Ent F H F' H' → Q b s') :
    wpAny (model X.prog X.w) A1 (Builtin.List.listLengthHint (.ref a)) Q E s := by
  obtain ⟨a', C', dx, fs, e1, h1, h2, h3⟩ := RpB.ins sm (.inl r : RpB X.K cl F H _ _)
  cases e1
  rw [hcl] at h1
  cases h1
  obtain ⟨mA, J, _⟩ := ins_get I.hok h2
  obtain ⟨od, J, _⟩ := J.look
  unfold Builtin.List.listLengthHint
  refine wpAny_bind (wpAny_bind (J.type.here ((PySem.W.looks_findIn I.kIn T.at').here ?_)))
  dsimp only
  refine PySem.W.KFB.if_not rfl ?_
  refine wp_if_pos rfl ?_
  refine wpAny_bind (wpAny_rule ?_)
  refine wpAny_bind (wpAny_attempt (len_raw T hcl sb I sm r ⟨hi.1, by omega⟩ hd fun s' F' H' I' en t => ?_))
  have htl : Builtin.List.listTooLong (i.toNat) = false := by simp [Builtin.List.listTooLong, sizeLine]; omega
  refine wpAny_bind (m := asInt? _) (wpAny_pure ?_)
  exact wpAny_ite_split (fun hab => absurd hab (by rw [htl]; decide)) (fun _ => wpAny_pure (h _ s' F' H' I' en))
theorem cg_listOwn {C fi fa : Addr} {c fn : String} {k : Nat} {Fl : List D → R D} (T : IterDef X.K X.mg C fi fn) (L : Spec X cl C fa "__len__" 1 k Fl) (hcl : cl c = some C) (hc : X.calm = true) (hr : Room (k + 5) X.A) : CallR X (.type "list") (c1 (rEO1 X.K cl (listOwn c fn Fl))) := by
  intro pins s σ H xs us Q I r ⟨x, ex, F, dx0, d, sm, r1, hg, q⟩
  subst ex
  obtain ⟨gs, ds, i, rfl, hgl, hFl, hi, rfl⟩ := listOwn_ok hg
  obtain ⟨a, C', dx, fs, rfl, h1, h2, h3⟩ := RpB.ins sm (.inl r1 : RpB X.K cl F H _ _)
  rw [hcl] at h1
  cases h1
  obtain ⟨lv, h4, h5⟩ := h3.lookup hgl
  cases h5 with
  | @lst l vs _ hq0 ra =>
    obtain ⟨u, rfl, ru⟩ := vals1 r
    cases ru
    have sb5 : Sub X (k + 3) X.A.in1.in1 := Sub.in1 (Sub.in1 ⟨hr, rfl⟩)
    refine callType_codes (Q₁ := fun obj s₁ => obj = .ref s.heap.objs.size ∧ s₁ = { s with heap := s.heap.push { cls := .type "list", data := .seq #[] } }) PySem.F.called_list (PySem.F.typeCall_list_1 _) PySem.F.entry_list_init
      (code_list_new _ ⟨rfl, rfl⟩) fun obj s₁ h₁ => ?_
    obtain ⟨rfl, rfl⟩ := h₁
    generalize hSn : s.heap.objs.size = S
    have hS : (s.heap.push { cls := .type "list", data := .seq #[] }).get? S = some { cls := .type "list", data := .seq #[] } := by rw [← hSn]; exact Heap.get?_push_size _ rfl
    refine ⟨⟨_, hS, rfl⟩, PySem.F.args_list_init_2 _ _, ?_⟩
    have fr : H S = none := I.hok.fresh (Nat.le_of_eq hSn)
    have I1 : Inv X pins σ (upd H S (.lst [])) { s with heap := s.heap.push { cls := .type "list", data := .seq #[] } } := by rw [← hSn]; exact I.lnew (its := []) (t' := s.toks) .nil (Nat.zero_le _)
    show wpAny _ _ (do let old ← Builtin.List.listItems (.ref S); Builtin.List.listUpdate (.ref S) (fun _ => #[]); letGo old.toList.reverse; Builtin.List.listExtendWith (.ref S) (.ref a) .none) _ _ _
    refine wpAny_bind ?_
    unfold Builtin.List.listItems
    refine wpAny_bind (wpAny_seqItems hS rfl (wpAny_pure ?_))
    show wpAny _ _ (updateSeq S (fun _ => #[]) >>= fun _ => letGo (#[] : Array Value).toList.reverse >>= fun _ => Builtin.List.listExtendWith (.ref S) (.ref a) .none) _ _ _
    refine wpAny_bind (wpAny_updateSeq hS rfl ?_)
    have I2 := I1.lset (f := fun _ => #[]) (its := []) (its' := []) (ys := []) (t' := s.toks) upd_same hS rfl .nil (Nat.zero_le _)
    rw [upd_upd] at I2
    refine wpAny_bind (wpAny_letGo ?_)
    generalize hs2 : ({ s with heap := (s.heap.push { cls := .type "list", data := .seq #[] }).update S (Obj.mapSeq fun _ => (#[] : Array Value)) } : Shared) = s2 at I2 ⊢
    have en2 : Ent F H F (upd H S (.lst [])) := Ent.cell sm fr
    have r2 : Rp X.K cl F (.ref a) (.ins c gs) := r1
    have sm2 := en2.fh
    have ha2 := sm2 _ _ (show F a = some (.ins C dx fs) from by
      obtain ⟨a', C'', dx', fs', e1, g1, g2, g3⟩ : ∃ a' C'' dx' fs', V.ref a = .ref a' ∧ cl c = some C'' ∧ F a' = some (.ins C'' dx' fs') ∧ RpF X.K cl F fs' gs := by cases r1 with | ins g1 g2 g3 => exact ⟨_, _, _, _, rfl, g1, g2, g3⟩
      cases e1
      rw [hcl] at g1
      cases g1
      have := sm _ _ g2
      rw [h2] at this
      cases this
      exact g2)
    have hl2 := sm2 _ _ hq0
    have hSa : S ≠ a := fun z => by rw [z, h2] at fr; cases fr
    have hSl : S ≠ l := fun z => by rw [z, sm _ _ hq0] at fr; cases fr
    obtain ⟨mA, J, _⟩ := ins_get I2.hok ha2
    obtain ⟨od, J, _⟩ := J.look
    unfold Builtin.List.listExtendWith
    refine wpAny_bind (J.type.here ?_)
    have z1 : Builtin.List.listSameRef (.ref S) (.ref a) = false := by simp [Builtin.List.listSameRef, hSa]
    have z2 : (Value.ref C == Value.type "list") = false := rfl
    have z3 : (Value.ref C == Value.type "tuple") = false := rfl
    simp only [z1, z2, z3, Bool.or_false, Bool.false_eq_true, if_false]
    refine wpAny_bind (iter_raw T (sb5.mono (by omega)) I2 ha2 h4 hl2 fun it s3 I3 n1 n2 => ?_)
    have en3 : Ent F H F (upd (upd H S (.lst [])) it (ItO l it 0)) := en2.trans (Ent.cell sm2 n1)
    have hSit : it ≠ S := fun z => by rw [z, upd_same] at n1; cases n1
    have hlit : l ≠ it := fun z => by rw [← z, hl2] at n1; cases n1
    have hait : a ≠ it := fun z => by rw [← z, ha2] at n1; cases n1
    have itx : X.s_0.heap.objs.size ≤ it := Nat.le_trans I2.sz n2
    -- the loop
    have loop : ∀ (s4 : Shared) (F4 H4 : Hp), Inv X pins σ H4 s4 → Ent F (upd (upd H S (.lst [])) it (ItO l it 0)) F4 H4 → codeAny (model X.prog X.w) X.A.in1 (.builtin "list.extend.loop" ⟨[.ref S, .ref it, .none], []⟩) (wants (fun r s₂ => r = .none ∧ EP X pins σ Q (.ref S) s₂) X.xe) s4 := fun s4 F4 H4 I4 en4 => by
      have hS4 : H4 S = some (.lst []) := en4.h _ _ (by rw [upd_ne (Ne.symm hSit), upd_same])
      have hi4 : H4 it = some (ItO l it 0) := en4.h _ _ upd_same
      have hl4 : H4 l = some (.lst vs) := en4.fh _ _ (en4.f _ _ hq0)
      obtain ⟨z, its, c0, rv, hlen, e3⟩ := I4.lstM hS4
      cases rv
      obtain ⟨its, rv, pl, hz⟩ := I4.list (.inl (.inl hl4))
      have eo := itO_get I4 hi4
      have W := (Walks.list (prog := X.prog) (w := X.w) (A := X.A.in1.in1) (I.ok.hd hc) it l hlit its.toArray).toS
      refine codeAny_extend_loopS W (by rw [List.size_toArray, ← rv.length]; exact hz) S (by simp [hSl, Ne.symm hSit]) .none _ 0 s4 #[] c0 rfl (Nat.zero_le _) ⟨⟨_, eo, rfl, rfl⟩, pl.isList⟩ e3 (ItemsOf.nil _) fun s5 acc c5 mv hS5 hacc => ?_
      have eacc : acc.toList = its := items_out (by simpa using hacc) fun j v e => by simpa using e
      have I5 := inv_drop I4 hi4
      obtain ⟨G, g1, g2⟩ := restrict s4.heap fun b => decide (b ≠ it)
      obtain ⟨k0, k1, k2, k3, k4, k5⟩ := inv_fp I4 hi4 itx
      have I6 : Inv X pins σ (dropH H4 it) { s4 with heap := G } := I5.turned (t' := s4.toks) (it := it) (fun b o hb e => by rw [g1 b (decide_eq_true hb)]; exact e) k0 k1 k3 k4 k5
      have hS6 : dropH H4 it S = some (.lst []) := by rw [dropH_ne (Ne.symm hSit)]; exact hS4
      have hl6 : (its.length) ≤ sizeLine := by rw [← rv.length]; exact hz
      have I7 : Inv X pins σ (upd (dropH H4 it) S (.lst vs)) { s4 with heap := s5.heap, toks := s5.toks } := by
        refine I6.write (x := S) (e := S) (t' := s5.toks) (by rw [hS6]; trivial) (.inl rfl) (fun b u hb e => ?_) ⟨_, hS5⟩ ⟨hz, its, c5, rv, by rw [← eacc, Array.toArray_toList]; exact hS5⟩
        have hbi : b ≠ it := fun z => by
          have e : G.get? b = some u := e
          rw [z, g2 it (by simp)] at e
          cases e
        refine mv.heap b u (by simp [hb, hbi]) ?_
        have e : G.get? b = some u := e
        rw [g1 b (decide_eq_true hbi)] at e
        exact e
      rw [← mv.eq_with] at I7
      refine ⟨rfl, .ref S, _, I7, rfl, ?_⟩
      have F4S : F4 S = none := en4.fr _ (by rw [upd_ne (Ne.symm hSit), upd_same]; simp) (sm.free fr)
      have F4it : F4 it = none := en4.fr _ (by rw [upd_same]; simp) (en2.fh.free n1)
      have en5 := en3.trans ⟨en4.f, en4.fh, en4.h, fun b z1 z2 => en4.fr b z1 z2⟩
      have en6 : Ent F H F4 (upd (dropH H4 it) S (.lst vs)) := by
        refine ⟨en4.f, fun b u e => ?_, fun b u e => ?_, en5.fr⟩
        · rw [upd_ne (ne_of_none e F4S), dropH_ne (ne_of_none e F4it)]; exact en4.fh _ _ e
        · have b1 : b ≠ S := ne_of_none e fr
          have b2 : b ≠ it := fun z => by
            rw [z] at e
            have n0 := n1
            rw [upd_ne hSit, e] at n0
            cases n0
          rw [upd_ne b1, dropH_ne b2]
          exact en5.h _ _ e
      exact q S _ F4 _ en6 fr upd_same F4S (.lst (ra.mono en4.f))
    refine wpAny_bind (wpAny_holding (hint_own L hcl (sb5.mono (by omega)) I3 en3.fh r2 hi hFl fun b s4 F4 H4 I4 en4 => ?_))
    have hS4 : H4 S = some (.lst []) := en4.h _ _ (by rw [upd_ne (Ne.symm hSit), upd_same])
    obtain ⟨z, its, c0, rv, hlen, e3⟩ := I4.lstM hS4
    cases rv
    refine wpAny_ite_split (fun _ => ?_) (fun _ => wpAny_pure ⟨plainId_quiet PySem.F.plain_extend_loop _, loop s4 F4 H4 I4 en4⟩)
    refine wpAny_bind (wpAny_rule ?_)
    refine wpAny_bind ?_
    show wpAny _ _ (updateSeq S (·.push .none) >>= fun _ => updateSeq S (·.pop)) _ _ _
    refine wpAny_bind (wpAny_updateSeq e3 rfl ?_)
    have J2 := I4.lset (f := (·.push Value.none)) (its' := [Value.none]) (ys := [.non]) (t' := s4.toks) hS4 e3 (by simp) (.cons rfl .nil) (by rw [List.length_singleton, sizeLine_eq]; decide)
    obtain ⟨z4, its4, k4, r4, hl4, e4⟩ := J2.lstM upd_same
    obtain ⟨u4, rfl, ru4⟩ := r4.one
    refine wpAny_updateSeq e4 rfl ?_ (by show 1 ≤ sizeLine; rw [sizeLine_eq]; decide) (by show 0 ≤ sizeLine + 1; exact Nat.zero_le _)
    have J3 := J2.lset (f := (·.pop)) (its := [u4]) (its' := []) (ys := []) (t' := s4.toks) upd_same e4 (by rfl) .nil (Nat.zero_le _)
    rw [upd_upd] at J3
    have hH : upd H4 S (.lst []) = H4 := by
      funext b
      by_cases hb : b = S
      · rw [hb, upd_same, hS4]
      · rw [upd_ne hb]
    rw [hH] at J3
    exact wpAny_pure ⟨plainId_quiet PySem.F.plain_extend_loop _, loop _ F4 H4 J3 en4⟩
theorem vo_list {C fi fa : Addr} {c fn : String} {k : Nat} {Fl : List D → R D} {p pos : Pos} (T : IterDef X.K X.mg C fi fn) (L : Spec X cl C fa "__len__" 1 k Fl) (hcl : cl c = some C) (hc : X.calm = true) (hr : Room (k + 5) X.A) (hm : X.mg "list" = none) (ha : VE X cl En W O e f)
    (hg : Gl X "list" := by rfl) (he : starEach [e] X.env = (false, eval e X.env) :: starEach [] X.env := by rfl) (hpl : (backTo pos (starEach [] X.env)).any (·.1) = false := by rfl) : VO X cl En W O (.Call (.Name "list" p) [e] [] pos) (e1 (listOwn c fn Fl) f) :=
  PE.weak (pe_callTy (cg_listOwn T L hcl hc hr) hg hm (by decide +kernel) (pa_cons ha pa_nil he) (by decide) (by decide) he hpl) fun σ H Q ⟨s, F, S, p⟩ => ⟨s, F, S, p.bind fun d _ p1 v F1 H1 e1 r1 => by
    cases q : listOwn c fn Fl d with
    | ok y => rw [q] at p1; exact ⟨v, rfl, F1, d, y, e1.fh, r1, q, fun a o F' H' en g1 g2 g3 g4 => p1 a o F' H' (e1.trans en) (e1.h.free g1) g2 g3 g4⟩
    | exc c' fs => exact (nox_listOwn _ _ _ q).elim
    | bad => rw [q] at p1; exact p1.elim⟩
end
end VS
namespace VS
open PySem PySem.Spec PyProof.Rows L2
/-! ### an owned thing lent for one expression whose value is flat -/
def tSt (f : Sl → R Bool) : Sl → R Bool := fun s => strict (f s)
def plainD (d : D) : R D := match d with | .bl b => .ok (.bl b) | .int i => .ok (.int i) | .non => .ok .non | .str x => .ok (.str x) | _ => .bad
def eFlat (f : Sl → R D) : Sl → R D := fun s => (strict (f s)).bind plainD
section
variable {X : Cx} {cl : Ctx} {En : Ety} {W : WX} {O O1 : List Nat} {e : Expr}
theorem vt_bor (i : Nat) {f : Sl → R Bool} (h : VT X cl En W O1 e f) (hO : O.filter (· ≠ i) = O1 := by decide) : VT X cl En W O e (tSt f) := PT.weak h fun σ H Q ⟨s, F, S, p⟩ => by
  obtain ⟨F1, e1, S1⟩ := S.freeze i
  unfold tSt at p
  cases q : f s with
  | ok b =>
    rw [q] at p
    refine ⟨s, F1, hO ▸ S1, ?_⟩
    rw [q]
    exact fun F' H' en => p F H' ⟨Same.refl F, (e1.trans en.f).trans en.fh, en.h, fun _ _ z => z⟩
  | exc c fs => rw [q] at p; exact p.elim
  | bad => rw [q] at p; exact p.elim
theorem ve_bor (i : Nat) {f : Sl → R D} (h : VE X cl En W O1 e f) (hO : O.filter (· ≠ i) = O1 := by decide) : VE X cl En W O e (eFlat f) := PE.weak h fun σ H Q ⟨s, F, S, p⟩ => by
  obtain ⟨F1, e1, S1⟩ := S.freeze i
  unfold eFlat at p
  cases q : f s with
  | ok d =>
    rw [q] at p
    have p : Pst X.K cl W σ F H (fun d => ∀ v F' H', Ent F H F' H' → Rp X.K cl F' v d → Q v H') (plainD d) := p
    refine ⟨s, F1, hO ▸ S1, ?_⟩
    rw [q]
    intro v F' H' en r
    have en' : Ent F H F H' := ⟨Same.refl F, (e1.trans en.f).trans en.fh, en.h, fun _ _ z => z⟩
    cases r with
    | non => exact p _ F H' en' .non
    | bl b => exact p _ F H' en' (.bl b)
    | int i => exact p _ F H' en' (.int i)
    | str x => exact p _ F H' en' (.str x)
    | _ => exact p.elim
  | exc c fs => rw [q] at p; exact p.elim
  | bad => rw [q] at p; exact p.elim
theorem Spec.of {C fa : Addr} {mn : String} {n k : Nat} {Fd : List D → R D} {fd : FuncData} {ps : List Str} (m : Meth X.K C (Str.ofString mn) fa) (G : FnOk X.prog X.w X.K X.mg X.base (L2.CX X.prog X.w) k fa fd ps (spV X.K cl n Fd)) (bd : Binds X.K fd ps []) (hn : ps.length = n := by rfl) : Spec X cl C fa mn n k Fd :=
  ⟨m.at_, m.fn, fd, ps, hn, G, bd⟩
end
/-! ### a block that never ends by falling through -/
def NoNx (f : S1) : Prop := ∀ s s', f s ≠ .nx s'
theorem noNx_bad : NoNx fun _ => .bad := fun _ _ h => by cases h
theorem noNx_ret (f : Sl → R D) : NoNx (sRet f) := fun s s' h => by
  unfold sRet at h
  cases q : f s <;> rw [q] at h <;> cases h
theorem noNx_seq {f g : S1} (h : NoNx g) : NoNx (sSeq f g) := fun s s' q => by
  unfold sSeq at q
  split at q <;> first | exact h _ _ q | cases q | skip
  all_goals first | exact h _ _ q | (rename_i z; exact absurd q (z s'))
theorem noNx_if {c : Sl → R Bool} {f g : S1} (h1 : NoNx f) (h2 : NoNx g) : NoNx (sIf c f g) := fun s s' q => by
  unfold sIf at q
  cases z : c s with
  | ok b => rw [z] at q; cases b <;> first | exact h1 _ _ q | exact h2 _ _ q
  | exc c fs => rw [z] at q; cases q
  | bad => rw [z] at q; cases q
end VS
namespace VS
/-! ### reckoning on data -/
def thenO : Out → S1 → Out | .nx s, b => b s | o, _ => o
def condO (r : R Bool) (a b : S1) (s : Sl) : Out := match r with | .ok k => if k = true then a s else b s | .exc c fs => .ex c fs s | .bad => .bad
def setO (r : R D) (i : Nat) (s : Sl) : Out := match r with | .ok d => .nx (s.set i (some d)) | .exc c fs => .ex c fs s | .bad => .bad
def retO (r : R D) (s : Sl) : Out := match r with | .ok d => .rt d | .exc c fs => .ex c fs s | .bad => .bad
def forO (r : R (List D)) (g : D → Sl → R Sl) (b : S1) (s : Sl) : Out := match r with | .ok ds => fLoop g b ds s | .exc c fs => .ex c fs s | .bad => .bad
def getS (s : Sl) (i : Nat) : R D := match s[i]? with | some (some d) => .ok d | _ => .bad
theorem sSeq_s {a b : S1} {s} : sSeq a b s = thenO (a s) b := by unfold sSeq thenO; cases a s <;> rfl
theorem sIf_s {c a b s} : sIf c a b s = condO (c s) a b s := by unfold sIf condO lift; cases c s <;> rfl
theorem sSet_s {i f s} : sSet i f s = setO (f s) i s := by unfold sSet setO lift; cases f s <;> rfl
theorem sRet_s {f s} : sRet f s = retO (f s) s := by unfold sRet retO lift; cases f s <;> rfl
theorem sFor_s {f g b s} : sFor f g b s = forO (f s) g b s := by unfold sFor forO lift; cases f s <;> rfl
theorem sNx_s {s} : sNx s = .nx s := id rfl
theorem thenO_nx {s b} : thenO (.nx s) b = b s := id rfl
theorem thenO_rt {d b} : thenO (.rt d) b = .rt d := id rfl
theorem condO_t {a b s} : condO (.ok true) a b s = a s := id rfl
theorem condO_f {a b s} : condO (.ok false) a b s = b s := id rfl
theorem setO_ok {d i s} : setO (.ok d) i s = .nx (s.set i (some d)) := id rfl
theorem retO_ok {d s} : retO (.ok d) s = .rt d := id rfl
theorem forO_ok {ds g b s} : forO (.ok ds) g b s = fLoop g b ds s := id rfl
theorem eN_s {i s} : eN i s = getS s i := id rfl
theorem getS_0 {d l} : getS (some d :: l) 0 = .ok d := id rfl
theorem getS_s {x l n} : getS (x :: l) (n + 1) = getS l n := id rfl
theorem eC_s {d s} : eC d s = .ok d := id rfl
theorem e1_s {g f s} : e1 g f s = (f s).bind g := id rfl
theorem e2_s {g f h s} : e2 g f h s = (f s).bind fun x => (h s).bind fun y => g x y := id rfl
theorem aN_s {s} : aN s = .ok [] := id rfl
theorem aC_s {f h s} : aC f h s = (f s).bind fun x => (h s).bind fun xs => .ok (x :: xs) := id rfl
def tupO (xs : List D) : R D := if xs.length ≤ lim then .ok (.tup xs) else .bad
def lstO (xs : List D) : R D := if xs.length ≤ lim then .ok (.lst xs) else .bad
theorem eTup_s {f s} : eTup f s = (f s).bind tupO := id rfl
theorem eLst_s {f s} : eLst f s = (f s).bind lstO := id rfl
theorem tupO_0 : tupO [] = .ok (.tup []) := id rfl
theorem tupO_1 {a} : tupO [a] = .ok (.tup [a]) := id rfl
theorem tupO_2 {a b} : tupO [a, b] = .ok (.tup [a, b]) := id rfl
theorem tupO_3 {a b c} : tupO [a, b, c] = .ok (.tup [a, b, c]) := id rfl
theorem tupO_4 {a b c d} : tupO [a, b, c, d] = .ok (.tup [a, b, c, d]) := id rfl
theorem lstO_0 : lstO [] = .ok (.lst []) := id rfl
theorem lstO_1 {a} : lstO [a] = .ok (.lst [a]) := id rfl
theorem lstO_2 {a b} : lstO [a, b] = .ok (.lst [a, b]) := id rfl
theorem lstO_3 {a b c} : lstO [a, b, c] = .ok (.lst [a, b, c]) := id rfl
theorem lstO_4 {a b c d} : lstO [a, b, c, d] = .ok (.lst [a, b, c, d]) := id rfl
theorem eCall_s {F dd fa s} : eCall F dd fa s = (fa s).bind fun ds => F (ds ++ dd) := id rfl
theorem eMake_s {F dd fa s} : eMake F dd fa s = (fa s).bind fun ds => F (ds ++ dd) := id rfl
def meO (c m : String) (F : List D → R D) (dd : List D) (fa : Sl → R (List D)) (s : Sl) (o : D) : R D := match o with
  | .ins c' gs => if c' = c ∧ gs.lookup m = none then (fa s).bind fun ds => F (o :: (ds ++ dd)) else .bad
  | _ => .bad
theorem eMeth_s {c m F dd fo fa s} : eMeth c m F dd fo fa s = (fo s).bind (meO c m F dd fa s) := id rfl
theorem meO_s {c m F dd fa s gs} (h : gs.lookup m = none) : meO c m F dd fa s (.ins c gs) = (fa s).bind fun ds => F (.ins c gs :: (ds ++ dd)) := if_pos ⟨rfl, h⟩
def bvO (d : D) : R Bool := match d with | .bl b => .ok b | _ => .bad
theorem tVal_s {f s} : tVal f s = (f s).bind bvO := id rfl
theorem bvO_s {b} : bvO (.bl b) = .ok b := id rfl
def andO (r : R Bool) (g : Sl → R Bool) (s : Sl) : R Bool := r.bind fun b => if b then g s else .ok false
def orO (r : R Bool) (g : Sl → R Bool) (s : Sl) : R Bool := r.bind fun b => if b then .ok true else g s
theorem tAndD_s {f g s} : tAndD f g s = andO (f s) g s := id rfl
theorem tOrD_s {f g s} : tOrD f g s = orO (f s) g s := id rfl
theorem andO_t {g s} : andO (.ok true) g s = g s := id rfl
theorem andO_f {g s} : andO (.ok false) g s = .ok false := id rfl
theorem orO_t {g s} : orO (.ok true) g s = .ok true := id rfl
theorem orO_f {g s} : orO (.ok false) g s = g s := id rfl
theorem tNotD_s {f s} : tNotD f s = (f s).bind fun b => .ok (!b) := id rfl
theorem tSt_s {f s} : tSt f s = strict (f s) := id rfl
theorem strict_ok {α : Type} {a : α} : strict (.ok a) = .ok a := id rfl
def eandO (r : R D) (g : Sl → R D) (s : Sl) : R D := r.bind fun d => match d with | .bl b => if b then g s else .ok (.bl false) | _ => .bad
theorem eAnd_s {f g s} : eAnd f g s = eandO (f s) g s := id rfl
theorem eandO_t {g s} : eandO (.ok (.bl true)) g s = g s := id rfl
theorem eandO_f {g s} : eandO (.ok (.bl false)) g s = .ok (.bl false) := id rfl
def eorO (r : R D) (g : Sl → R D) (s : Sl) : R D := r.bind fun d => match d with | .bl b => if b then .ok (.bl true) else g s | _ => .bad
theorem eOr_s {f g s} : eOr f g s = eorO (f s) g s := id rfl
theorem eorO_t {g s} : eorO (.ok (.bl true)) g s = .ok (.bl true) := id rfl
theorem eorO_f {g s} : eorO (.ok (.bl false)) g s = g s := id rfl
def eifO (r : R Bool) (f g : Sl → R D) (s : Sl) : R D := r.bind fun b => if b then f s else g s
theorem eIf_s {c f g s} : eIf c f g s = eifO (c s) f g s := id rfl
theorem eifO_t {f g s} : eifO (.ok true) f g s = f s := id rfl
theorem eifO_f {f g s} : eifO (.ok false) f g s = g s := id rfl
theorem iRng1_s {f s} : iRng1 f s = (f s).bind rng1D := id rfl
theorem iRng2_s {f s} : iRng2 f s = (f s).bind rng2D := id rfl
theorem iEnum_s {f s} : iEnum f s = (f s).bind enumD := id rfl
theorem enumD_s {l} : enumD [.lst l] = .ok (enumL 0 l) := id rfl
theorem iSeq_s {f s} : iSeq f s = (f s).bind seqD := id rfl
theorem seqD_l {l} : seqD (.lst l) = .ok l := id rfl
theorem seqD_t {l} : seqD (.tup l) = .ok l := id rfl
theorem iOwn_s {c fn f s} : iOwn c fn f s = (f s).bind (ownD c fn) := id rfl
theorem ownD_s {c fn gs l} (h : gs.lookup fn = some (.lst l)) : ownD c fn (.ins c gs) = .ok l := by unfold ownD; simp [h]
theorem iKeysD_s {f s} : iKeysD f s = (f s).bind keysD := id rfl
theorem keysD_s {es} : keysD (.dct es) = .ok (es.map (·.1)) := id rfl
def getO (r : R D) (fk fx : Sl → R D) (s : Sl) : R D := r.bind fun d => (dctOf d).bind fun es => (fk s).bind fun k => (fx s).bind fun x => lookD es k x
theorem eGet_s {fd fk fx s} : eGet fd fk fx s = getO (fd s) fk fx s := id rfl
theorem getO_s {es fk fx s} : getO (.ok (.dct es)) fk fx s = (fk s).bind fun k => (fx s).bind fun x => lookD es k x := id rfl
theorem rng1D_nat {n : Nat} (h : n ≤ 1000000000) : rng1D [.int (n : Int)] = .ok (nums 0 n) := by
  have e : rng1D [.int (n : Int)] = if -(2 ^ 62) ≤ (n : Int) ∧ (n : Int) < 2 ^ 62 then R.ok (nums 0 (n : Int).toNat) else R.bad := id rfl
  rw [e, if_pos (by omega), Int.toNat_natCast]
def mutO (i : Nat) (g : List D → List D → R (List D)) (fa : Sl → R (List D)) (s : Sl) (r : R D) : Out := match r with
  | .ok (.lst l) => lift (fa s) s fun ds => (match g l ds with | .ok l' => .nx (s.set i (some (.lst l'))) | _ => .bad)
  | _ => .bad
theorem sMut_s {i g fa s} : sMut i g fa s = mutO i g fa s (getS s i) := by
  unfold sMut mutO getS
  cases s[i]? with
  | none => rfl
  | some u => cases u with
    | none => rfl
    | some d => cases d <;> rfl
def mut2 (i : Nat) (s : Sl) (g : List D → List D → R (List D)) (l : List D) (r : R (List D)) : Out := match r with
  | .ok ds => (match g l ds with | .ok l' => .nx (s.set i (some (.lst l'))) | _ => .bad)
  | .exc c fs => .ex c fs s
  | .bad => .bad
theorem mutO_s {i g fa s l} : mutO i g fa s (.ok (.lst l)) = mut2 i s g l (fa s) := by
  show lift (fa s) s _ = _
  unfold mut2
  cases fa s <;> rfl
theorem mut2_app {i s l d} (h : l.length < 16000000) : mut2 i s appL l (.ok [d]) = .nx (s.set i (some (.lst (l ++ [d])))) := by
  unfold mut2 appL
  have : l.length < lim := h
  simp [this]
theorem mut2_rev {i s l} : mut2 i s revL l (.ok []) = .nx (s.set i (some (.lst l.reverse))) := id rfl
def putO (i : Nat) (fk : Sl → R D) (s : Sl) (v : R D) : Out := lift v s fun v => match s[i]? with
  | some (some (.dct es)) => lift (fk s) s fun k => putD s i es v k
  | _ => .bad
theorem sPut_s {i fk fv s} : sPut i fk fv s = putO i fk s (fv s) := id rfl
def put2 (i : Nat) (s : Sl) (v : D) (d : R D) (k : R D) : Out := match d with | .ok (.dct es) => (match k with | .ok k => putD s i es v k | .exc c fs => .ex c fs s | .bad => .bad) | _ => .bad
theorem putO_s {i fk s v} : putO i fk s (.ok v) = put2 i s v (getS s i) (fk s) := by
  unfold putO put2 getS
  show (match s[i]? with | some (some (.dct es)) => lift (fk s) s fun k => putD s i es v k | _ => .bad) = _
  cases s[i]? with
  | none => rfl
  | some u => cases u with
    | none => rfl
    | some d => cases d <;> first | rfl | (show lift (fk s) s _ = _; cases fk s <;> rfl)
theorem put2_s {i s v es k l} (h : leafOf k = some l) (hz : es.length < 16000000) : put2 i s v (.ok (.dct es)) (.ok k) = .nx (s.set i (some (.dct (dPut es l v)))) := by
  show putD s i es v k = _
  unfold putD
  rw [h]
  exact if_pos hz
theorem sFldC_s {i c fn f s gs d} (h : getS s i = .ok (.ins c gs)) (hd : f s = .ok d) (hz : gs.length < 1000) : sFldC i c fn f s = .nx (s.set i (some (.ins c (putG fn d gs)))) := by
  have h2 : s[i]? = some (some (.ins c gs)) := by
    unfold getS at h
    split at h
    · cases h; assumption
    · cases h
  unfold sFldC sFldD
  rw [h2]
  simp [lift, hd, hz]
/-! #### loops -/
theorem fLoop_nx {g : D → Sl → R Sl} {b : S1} (I : Nat → Sl → Prop) : ∀ (ds : List D) (k : Nat) (s : Sl), I k s → (∀ i d s, ds[i]? = some d → I (k + i) s → ∃ s1, g d s = .ok s1 ∧ ∃ s2, (b s1 = .nx s2 ∨ b s1 = .ct s2) ∧ I (k + i + 1) s2) → ∃ s', fLoop g b ds s = .nx s' ∧ I (k + ds.length) s'
  | [], k, s, h, _ => ⟨s, rfl, h⟩
  | d :: ds, k, s, h, st => by
    obtain ⟨s1, h1, s2, h2, h3⟩ := st 0 d s rfl h
    obtain ⟨s', h4, h5⟩ := fLoop_nx I ds (k + 1) s2 h3 fun i d s hd hs => by
      have q := st (i + 1) d s hd (by rw [← Nat.add_assoc, Nat.add_right_comm]; exact hs)
      obtain ⟨s1, a1, s2, a2, a3⟩ := q
      exact ⟨s1, a1, s2, a2, by have e : k + (i + 1) + 1 = k + 1 + i + 1 := by omega
                                rw [← e]; exact a3⟩
    refine ⟨s', ?_, by rw [List.length_cons]; have e : k + (ds.length + 1) = k + 1 + ds.length := by omega
                       rw [e]; exact h5⟩
    unfold fLoop
    rw [h1]
    rcases h2 with h2 | h2 <;> (show (match b s1 with | .nx s2 => fLoop g b ds s2 | .ct s2 => fLoop g b ds s2 | .bk s2 => .nx s2 | o => o) = _; rw [h2]; exact h4)
/-- a loop, its state followed by one function -/
theorem fLoop_fold {β α : Type} {g : D → Sl → R Sl} {b : S1} (f : β → D) (st : α → Sl) (step : α → β → α) : ∀ (xs : List β) (a : α) (P : α → Prop), P a → (∀ x ∈ xs, ∀ a, P a → P (step a x) ∧ ∃ s1, g (f x) (st a) = .ok s1 ∧ (b s1 = .nx (st (step a x)) ∨ b s1 = .ct (st (step a x)))) → fLoop g b (xs.map f) (st a) = .nx (st (xs.foldl step a)) ∧ P (xs.foldl step a)
  | [], a, P, h, _ => ⟨rfl, h⟩
  | x :: xs, a, P, h, q => by
    obtain ⟨hP, s1, h1, h2⟩ := q x List.mem_cons_self a h
    obtain ⟨h3, h4⟩ := fLoop_fold f st step xs (step a x) P hP fun y hy => q y (List.mem_cons_of_mem _ hy)
    refine ⟨?_, h4⟩
    rw [List.map_cons, List.foldl_cons, ← h3]
    show (match g (f x) (st a) with | .ok s1 => (match b s1 with | .nx s2 => fLoop g b (xs.map f) s2 | .ct s2 => fLoop g b (xs.map f) s2 | .bk s2 => .nx s2 | o => o) | _ => .bad) = _
    rw [h1]
    rcases h2 with h2 | h2 <;> (show (match b s1 with | .nx s2 => fLoop g b (xs.map f) s2 | .ct s2 => fLoop g b (xs.map f) s2 | .bk s2 => .nx s2 | o => o) = _; rw [h2])
/-- a comprehension -/
theorem lcLoop_map {β γ : Type} {t : D → Sl → R Sl} {tt : Sl → R Bool} {fe : Sl → R D} {sw : Sl} (f : β → D) (p : β → Bool) (h : β → D) : ∀ (xs : List β), (∀ x ∈ xs, ∃ s1, t (f x) sw = .ok s1 ∧ tt s1 = .ok (p x) ∧ (p x = true → fe s1 = .ok (h x))) → lcLoop t tt fe sw (xs.map f) = .ok ((xs.filter p).map h)
  | [], _ => rfl
  | x :: xs, q => by
    obtain ⟨s1, h1, h2, h3⟩ := q x List.mem_cons_self
    have ih := lcLoop_map (γ := γ) f p h xs fun y hy => q y (List.mem_cons_of_mem _ hy)
    rw [List.map_cons]
    unfold lcLoop
    rw [h1]
    show ((tt s1).bind fun b => if b then (fe s1).bind fun y => (lcLoop t tt fe sw (xs.map f)).bind fun r => .ok (y :: r) else lcLoop t tt fe sw (xs.map f)) = _
    rw [h2]
    show (if p x then (fe s1).bind fun y => (lcLoop t tt fe sw (xs.map f)).bind fun r => .ok (y :: r) else lcLoop t tt fe sw (xs.map f)) = _
    cases hp : p x with
    | true => rw [if_pos rfl, h3 hp, ih, List.filter_cons_of_pos hp]; rfl
    | false => rw [if_neg (by simp), ih, List.filter_cons_of_neg (by simp [hp])]
theorem eLc_map {β : Type} {vs : List Nat} {fi : Sl → R (List D)} {t : D → Sl → R Sl} {tt : Sl → R Bool} {fe : Sl → R D} {s : Sl} (f : β → D) (p : β → Bool) (h : β → D) (xs : List β) (hi : fi s = .ok (xs.map f)) (hz : xs.length ≤ 16000000)
    (q : ∀ x ∈ xs, ∃ s1, t (f x) (wipeS s vs) = .ok s1 ∧ tt s1 = .ok (p x) ∧ (p x = true → fe s1 = .ok (h x))) : eLc vs fi t tt fe s = .ok (.lst ((xs.filter p).map h)) := by
  unfold eLc
  rw [hi]
  show (if (xs.map f).length ≤ lim then _ else _) = _
  rw [if_pos (by rw [List.length_map]; exact hz), lcLoop_map (γ := Unit) f p h xs q]
  rfl
/-! #### operators -/
theorem mulD_r {i j : Int} (h1 : -18446744073709551616 < j) (h2 : j < 18446744073709551616) : mulD (.int i) (.int j) = .ok (.int (i * j)) := if_pos (.inr ⟨by omega, by omega⟩)
theorem mulD_l {i j : Int} (h1 : -18446744073709551616 < i) (h2 : i < 18446744073709551616) : mulD (.int i) (.int j) = .ok (.int (i * j)) := if_pos (.inl ⟨by omega, by omega⟩)
theorem fdivD_s {i j : Int} (h1 : 0 < j) (h2 : j < 1073741824) : fdivD (.int i) (.int j) = .ok (.int (i / j)) := if_pos ⟨h1, h2⟩
theorem modD_s {i j : Int} (h1 : 0 < j) : modD (.int i) (.int j) = .ok (.int (i % j)) := if_pos h1
theorem addD_s {i j : Int} : addD (.int i) (.int j) = .ok (.int (i + j)) := id rfl
theorem subD_s {i j : Int} : subD (.int i) (.int j) = .ok (.int (i - j)) := id rfl
theorem ltD_s {i j : Int} : ltD (.int i) (.int j) = .ok (.bl (decide (i < j))) := id rfl
theorem leD_s {i j : Int} : leD (.int i) (.int j) = .ok (.bl (decide (i ≤ j))) := id rfl
theorem gtD_s {i j : Int} : gtD (.int i) (.int j) = .ok (.bl (decide (j < i))) := id rfl
theorem geD_s {i j : Int} : geD (.int i) (.int j) = .ok (.bl (decide (j ≤ i))) := id rfl
theorem eqD_ii {i j : Int} : eqD (.int i) (.int j) = .ok (.bl (decide (i = j))) := by
  have e : eqD (.int i) (.int j) = .ok (.bl (i == j)) := id rfl
  rw [e]; rfl
theorem neD_ii {i j : Int} : neD (.int i) (.int j) = .ok (.bl (!decide (i = j))) := by
  have e : neD (.int i) (.int j) = .ok (.bl (!(i == j))) := id rfl
  rw [e]; rfl
theorem intD_s {i : Int} : intD (.int i) = .ok (.int i) := id rfl
theorem lenD_l {l} : lenD (.lst l) = .ok (.int l.length) := id rfl
theorem lenD_t {l} : lenD (.tup l) = .ok (.int l.length) := id rfl
theorem lenD_s {l} : lenD (.scr l) = .ok (.int l.length) := id rfl
theorem negD_s {i : Int} : negD (.int i) = .ok (.int (-i)) := id rfl
theorem isND_n : isND .non .non = .ok (.bl true) := id rfl
theorem isND_i {i : Int} : isND (.int i) .non = .ok (.bl false) := id rfl
theorem notND_n : notND .non .non = .ok (.bl false) := id rfl
theorem notND_i {i : Int} : notND (.int i) .non = .ok (.bl true) := id rfl
theorem bind_o {α β : Type} {a : α} {f : α → R β} : (R.ok a).bind f = f a := id rfl
theorem outD_rt {d} : outD (.rt d) = .ok d := id rfl
theorem powD_s {i j : Int} (h0 : 0 ≤ j) (h1 : j ≤ 1000000) (h2 : i.natAbs < 18446744073709551616) : powD (.int i) (.int j) = .ok (.int (i ^ j.toNat)) := if_pos ⟨h0, h1, by omega⟩
theorem absD_s {i : Int} : absD (.int i) = .ok (.int (if i < 0 then -i else i)) := id rfl
theorem condO_if {k : Bool} {a b s} : condO (.ok k) a b s = if k = true then a s else b s := id rfl
theorem gN_s {i d s} : gN i d s = .ok (s.set i (some d)) := id rfl
theorem gT_s {ts l s} : gT ts (.tup l) s = ts l s := id rfl
theorem gsC_s {t ts d l s} : gsC t ts (d :: l) s = (t d s).bind (ts l) := id rfl
theorem gsN_s {s} : gsN [] s = .ok s := id rfl
theorem notD_s {b} : notD (.bl b) = .ok (.bl (!b)) := id rfl
theorem dDef_s {N b ds} : dDef N b ds = outD (b (startD N ds)) := id rfl
end VS
namespace VS
open PySem PyProof.Rows L2
/-! #### equality of data -/
def shp (d : D) : Bool := match toPy d with | some p => SeqAt.shaped p | none => false
theorem eqD_self {d : D} (h : shp d = true) : eqD d d = .ok (.bl true) := by
  unfold shp at h
  unfold eqD
  cases q : toPy d with
  | none => rw [q] at h; cases h
  | some p =>
    rw [q] at h
    show (if SeqAt.shaped p = true ∧ SeqAt.shaped p = true then R.ok (D.bl (PyData.eqv p p)) else .bad) = _
    rw [if_pos ⟨h, h⟩, SeqAt.eqv_refl p (SeqAt.canLay_of_shaped h)]
/-- flat enough: depth at most n -/
def shpN (n : Nat) (d : D) : Bool := match toPy d with | some p => p.canLay0 && decide (p.depth ≤ n) | none => false
theorem shp_of {n : Nat} {d : D} (h : shpN n d = true) (hn : n ≤ 64) : shp d = true := by
  unfold shpN at h
  unfold shp
  cases q : toPy d with
  | none => rw [q] at h; cases h
  | some p =>
    rw [q] at h
    have h : (p.canLay0 && decide (p.depth ≤ n)) = true := h
    rw [Bool.and_eq_true, decide_eq_true_eq] at h
    show (p.canLay0 && decide (p.depth ≤ 64)) = true
    rw [Bool.and_eq_true, decide_eq_true_eq]
    exact ⟨h.1, Nat.le_trans h.2 hn⟩
theorem shpN_int {n i} : shpN n (.int i) = true := rfl
theorem shpN_non {n} : shpN n .non = true := rfl
theorem shpN_bl {n b} : shpN n (.bl b) = true := rfl
theorem toPyA_of {n : Nat} : ∀ {l : List D}, (∀ d ∈ l, shpN n d = true) → ∃ ps, toPyA l = some ps ∧ PyData.canLayAll0 ps = true ∧ PyData.depthAll ps ≤ n
  | [], _ => ⟨[], rfl, by simp [PyData.canLayAll0], by simp [PyData.depthAll]⟩
  | d :: l, h => by
    obtain ⟨ps, h1, h2, h3⟩ := toPyA_of fun x hx => h x (List.mem_cons_of_mem _ hx)
    have hd := h d List.mem_cons_self
    unfold shpN at hd
    cases q : toPy d with
    | none => rw [q] at hd; cases hd
    | some p =>
      rw [q] at hd
      have hd : (p.canLay0 && decide (p.depth ≤ n)) = true := hd
      rw [Bool.and_eq_true, decide_eq_true_eq] at hd
      refine ⟨p :: ps, by simp [toPyA, q, h1], by simp [PyData.canLayAll0, hd.1, h2], ?_⟩
      rw [PyData.depthAll]
      omega
theorem shpN_tup {n : Nat} {l : List D} (h : ∀ d ∈ l, shpN n d = true) : shpN (n + 1) (.tup l) = true := by
  obtain ⟨ps, h1, h2, h3⟩ := toPyA_of h
  unfold shpN
  rw [show toPy (.tup l) = some (.tuple ps) from by simp [toPy, h1]]
  show ((PyData.tuple ps).canLay0 && decide ((PyData.tuple ps).depth ≤ n + 1)) = true
  rw [Bool.and_eq_true, decide_eq_true_eq]
  exact ⟨by simpa [PyData.canLay0] using h2, by rw [PyData.depth]; omega⟩
theorem shpN_lst {n : Nat} {l : List D} (h : ∀ d ∈ l, shpN n d = true) : shpN (n + 1) (.lst l) = true := by
  obtain ⟨ps, h1, h2, h3⟩ := toPyA_of h
  unfold shpN
  rw [show toPy (.lst l) = some (.list ps) from by simp [toPy, h1]]
  show ((PyData.list ps).canLay0 && decide ((PyData.list ps).depth ≤ n + 1)) = true
  rw [Bool.and_eq_true, decide_eq_true_eq]
  exact ⟨by simpa [PyData.canLay0] using h2, by rw [PyData.depth]; omega⟩
/-! #### places -/
theorem ixE_l {l : List D} {i : Int} {d : D} (h0 : 0 ≤ i) (h : l[i.toNat]? = some d) : ixE (.lst l) (.int i) = .ok d := by
  have hl : i.toNat < l.length := (List.getElem?_eq_some_iff.mp h).1
  have e : atI l i = some d := by
    unfold atI ixN
    rw [if_pos h0, if_pos (by omega)]
    exact h
  show (match atI l i with | some d => R.ok d | none => .bad) = _
  rw [e]
theorem ixE_t {l : List D} {i : Int} {d : D} (h0 : 0 ≤ i) (h : l[i.toNat]? = some d) : ixE (.tup l) (.int i) = .ok d := by
  have hl : i.toNat < l.length := (List.getElem?_eq_some_iff.mp h).1
  have e : atI l i = some d := by
    unfold atI ixN
    rw [if_pos h0, if_pos (by omega)]
    exact h
  show (match atI l i with | some d => R.ok d | none => .bad) = _
  rw [e]
theorem ixE_s {l : List D} {i : Int} {d : D} (h0 : 0 ≤ i) (h : l[i.toNat]? = some d) : ixE (.scr l) (.int i) = .ok d := by
  have hl : i.toNat < l.length := (List.getElem?_eq_some_iff.mp h).1
  have e : atI l i = some d := by
    unfold atI ixN
    rw [if_pos h0, if_pos (by omega)]
    exact h
  show (match atI l i with | some d => R.ok d | none => .bad) = _
  rw [e]
theorem ixE_t0 {a : D} {l} : ixE (.tup (a :: l)) (.int 0) = .ok a := ixE_t (by omega) rfl
theorem ixE_t1 {a b : D} {l} : ixE (.tup (a :: b :: l)) (.int 1) = .ok b := ixE_t (by omega) rfl
theorem ixE_t2 {a b c : D} {l} : ixE (.tup (a :: b :: c :: l)) (.int 2) = .ok c := ixE_t (by omega) rfl
theorem ixE_l0 {a : D} {l} : ixE (.lst (a :: l)) (.int 0) = .ok a := ixE_l (by omega) rfl
theorem ixE_l1 {a b : D} {l} : ixE (.lst (a :: b :: l)) (.int 1) = .ok b := ixE_l (by omega) rfl
theorem ixE_l2 {a b c : D} {l} : ixE (.lst (a :: b :: c :: l)) (.int 2) = .ok c := ixE_l (by omega) rfl
theorem ixE_l3 {a b c d : D} {l} : ixE (.lst (a :: b :: c :: d :: l)) (.int 3) = .ok d := ixE_l (by omega) rfl
theorem ixE_l4 {a b c d e : D} {l} : ixE (.lst (a :: b :: c :: d :: e :: l)) (.int 4) = .ok e := ixE_l (by omega) rfl
/-! #### sorting -/
theorem sortL_map {β : Type} (f : β → D) (xs : List β) : sortL (xs.map f) = (xs.mergeSort fun a b => PySem.W.dataLe false enc (f a) (f b)).map f := by
  unfold sortL
  exact (List.map_mergeSort (s := PySem.W.dataLe false enc) (r := fun a b => PySem.W.dataLe false enc (f a) (f b)) (f := f) (l := xs) fun _ _ _ _ => rfl).symm
theorem le_int (i j : Int) : PySem.W.dataLe false enc (.int i) (.int j) = decide (i ≤ j) := by
  have e : PySem.W.dataLe false enc (.int i) (.int j) = !PyProof.Rows.lexLt PyProof.Rows.itemOrd [Sum.inl j] [Sum.inl i] := rfl
  rw [e]
  have e2 : PyProof.Rows.lexLt PyProof.Rows.itemOrd [Sum.inl j] [Sum.inl i] = decide (j < i) := by
    unfold PyProof.Rows.lexLt
    simp [PyProof.Rows.itemOrd, PyProof.Rows.itemLt, PyProof.Rows.lexLt]
  rw [e2]
  by_cases h : i ≤ j
  · rw [decide_eq_true h, decide_eq_false (by omega)]; rfl
  · rw [decide_eq_false h, decide_eq_true (by omega)]; rfl
theorem lt_of_sorted : ∀ {l : List Int}, l.Pairwise (· ≤ ·) → l.Nodup → l.Pairwise (· < ·)
  | [], _, _ => .nil
  | x :: l, h, d => by
    obtain ⟨h1, h2⟩ := List.pairwise_cons.mp h
    obtain ⟨d1, d2⟩ := List.nodup_cons.mp d
    refine List.pairwise_cons.mpr ⟨fun y hy => ?_, lt_of_sorted h2 d2⟩
    have a := h1 y hy
    have b : x ≠ y := fun z => d1 (z ▸ hy)
    omega
theorem sortL_ints {ns : List Int} (hn : ns.Nodup) : sortL (ns.map D.int) = (setL ns).map D.int := by
  rw [sortL_map]
  congr 1
  have e : (fun a b => PySem.W.dataLe false enc (D.int a) (D.int b)) = fun (a b : Int) => decide (a ≤ b) := by funext a b; exact le_int a b
  rw [e]
  have p := List.mergeSort_perm ns (fun (a b : Int) => decide (a ≤ b))
  have s1 : (ns.mergeSort fun (a b : Int) => decide (a ≤ b)).Pairwise fun a b => decide (a ≤ b) = true := List.pairwise_mergeSort (by intro a b c; simp; omega) (by intro a b; simp; omega) ns
  refine lt_uniq (lt_of_sorted (s1.imp fun h => of_decide_eq_true h) (p.nodup_iff.mpr hn)) (setL_lt ns) fun k => ?_
  rw [p.mem_iff, mem_setL]
theorem sortOk_ints (ns : List Int) : sortOk (ns.map D.int) = true := by
  have h1 : (toPyA (ns.map D.int)).isSome = true := by
    obtain ⟨ps, h, _⟩ := toPyA_of (n := 0) (l := ns.map D.int) (by simp [shpN_int])
    rw [h]; rfl
  unfold sortOk
  simp only [h1, Bool.and_eq_true, Bool.or_eq_true, List.all_map, List.all_eq_true, Function.comp]
  refine ⟨⟨⟨trivial, fun a _ b _ => rfl⟩, .inr fun a _ => rfl⟩, fun a _ => rfl⟩
theorem sortD_ints {ns : List Int} (hn : ns.Nodup) : sortD (.lst (ns.map D.int)) = .ok (.lst ((setL ns).map D.int)) := by
  show (if sortOk (ns.map D.int) = true then R.ok (D.lst (sortL (ns.map D.int))) else .bad) = _
  rw [if_pos (sortOk_ints ns), sortL_ints hn]
/-- pairs of whole numbers, in some order -/
theorem sortOk_pairs {β : Type} (f g : β → Int) (xs : List β) : sortOk (xs.map fun x => D.tup [.int (f x), .int (g x)]) = true := by
  have h1 : (toPyA (xs.map fun x => D.tup [.int (f x), .int (g x)])).isSome = true := by
    obtain ⟨ps, h, _⟩ := toPyA_of (n := 1) (l := xs.map fun x => D.tup [.int (f x), .int (g x)]) (by
      intro d hd
      obtain ⟨x, _, rfl⟩ := List.mem_map.mp hd
      exact shpN_tup (by intro d hd; simp at hd; rcases hd with rfl | rfl <;> rfl))
    rw [h]; rfl
  unfold sortOk
  simp only [h1, Bool.and_eq_true, Bool.or_eq_true, List.all_map, List.all_eq_true, Function.comp]
  refine ⟨⟨⟨trivial, fun a _ b _ => ?_⟩, .inl fun a _ => rfl⟩, fun a _ => ?_⟩
  · rfl
  · rfl
theorem sortD_pairs {β : Type} (f g : β → Int) (xs : List β) : ∃ ys : List β, ys.Perm xs ∧ sortD (.lst (xs.map fun x => D.tup [.int (f x), .int (g x)])) = .ok (.lst (ys.map fun x => D.tup [.int (f x), .int (g x)])) := by
  refine ⟨xs.mergeSort fun a b => PySem.W.dataLe false enc (D.tup [.int (f a), .int (g a)]) (D.tup [.int (f b), .int (g b)]), List.mergeSort_perm xs _, ?_⟩
  show (if sortOk (xs.map fun x => D.tup [.int (f x), .int (g x)]) = true then R.ok (D.lst (sortL (xs.map fun x => D.tup [.int (f x), .int (g x)]))) else .bad) = _
  rw [if_pos (sortOk_pairs f g xs), sortL_map]
end VS
namespace Law
open VS
def L_law_draws_1 : S1 := (sSeq (sSet 7 (eC (.int 0))) (sSeq (sIf (tVal (eN 4)) (sSeq (sSet 7 (e2 modD (e1 intD (eN 3)) (eC (.int 1000)))) (sSet 3 (e2 fdivD (eN 3) (eC (.int 1000))))) (sIf (tVal (e2 gtD (eN 3) (eC (.int 0)))) (sSeq (sSet 8 (e2 modD (e1 intD (e2 addD (e2 mulD (eN 3) (e2 addD (eC (.int 48271)) (e2 mulD (eC (.int 6)) (eN 6)))) (e2 mulD (eC (.int 69621)) (eN 6)))) (eC (.int 2147483647)))) (sSeq (sSet 8 (e2 modD (e1 intD (e2 addD (e2 addD (e2 mulD (eN 8) (eN 8)) (e2 mulD (eC (.int 40692)) (eN 6))) (eC (.int 1)))) (eC (.int 2147483629)))) (sSet 7 (e2 modD (e1 intD (eN 8)) (eC (.int 1000)))))) sNx)) (sMut 5 appL (aC (eN 7) aN))))
/-- _law_draws(_law_script, _law_at, _law_many): slots 0 _law_script, 1 _law_at, 2 _law_many, 3 _law_number, 4 _law_big, 5 _law_found, 6 _law_k, 7 _law_draw, 8 _law_mixed -/
def F_law_draws : List D → R D := dDef 9 (sSeq (sSet 3 (eC (.int 0))) (sSeq (sIf (tVal (e2 ltD (eN 1) (e1 lenD (eN 0)))) (sSet 3 (e1 absD (e2 ixE (eN 0) (eN 1)))) sNx) (sSeq (sSet 4 (e2 geD (eN 3) (e2 powD (eC (.int 10)) (eC (.int 18))))) (sSeq (sSet 5 (eLst aN)) (sSeq (sFor (iRng1 (aC (eN 2) aN)) (gN 6) L_law_draws_1) (sRet (eN 5)))))))
def L_law_rows_1 : S1 := (sSeq (sSet 7 (eCall F_law_draws [] (aC (eN 0) (aC (e2 addD (eN 1) (eN 6)) (aC (eC (.int 3)) aN))))) (sSeq (sSet 8 (e2 mulD (e2 subD (e2 modD (e1 intD (e2 ixE (eN 7) (eC (.int 1)))) (eN 3)) (e2 fdivD (eN 3) (eC (.int 3)))) (eN 4))) (sSeq (sIf (tVal (e2 eqD (e2 modD (e1 intD (e2 ixE (eN 7) (eC (.int 0)))) (eC (.int 8))) (eC (.int 7)))) (sSet 8 (eC .non)) sNx) (sMut 5 appL (aC (eTup (aC (eN 8) (aC (e2 subD (e2 ixE (eN 7) (eC (.int 2))) (eC (.int 400))) aN))) aN)))))
/-- _law_rows(_law_script, _law_first, _law_many, _law_spread, _law_step): slots 0 _law_script, 1 _law_first, 2 _law_many, 3 _law_spread, 4 _law_step, 5 _law_rows_here, 6 _law_k, 7 _law_draws_here, 8 _law_key -/
def F_law_rows : List D → R D := dDef 9 (sSeq (sSet 5 (eLst aN)) (sSeq (sFor (iRng1 (aC (eN 2) aN)) (gN 6) L_law_rows_1) (sRet (eN 5))))
/-- is_integer(thing): slots 0 thing -/
def F_is_integer : List D → R D := dDef 1 (sRet (eAnd (e1 (isi1 "int") (eN 0)) (e1 notD (e1 (isi1 "bool") (eN 0)))))
/-- is_row(thing): slots 0 thing -/
def F_is_row : List D → R D := dDef 1 (sSeq (sIf (tOrD (tNotD (tVal (e1 (isi2 "list" "tuple") (eN 0)))) (tVal (e2 neD (e1 lenD (eN 0)) (eC (.int 2))))) (sRet (eC (.bl false))) sNx) (sSeq (sIf (tAndD (tVal (e2 notND (e2 ixE (eN 0) (eC (.int 0))) (eC .non))) (tNotD (tVal (eCall F_is_integer [] (aC (e2 ixE (eN 0) (eC (.int 0))) aN))))) (sRet (eC (.bl false))) sNx) (sRet (eCall F_is_integer [] (aC (e2 ixE (eN 0) (eC (.int 1))) aN)))))
def L_Table___init___1 : S1 := (sSeq (sIf (tNotD (tVal (eCall F_is_row [] (aC (eN 4) aN)))) (fun _ => .bad) sNx) (sMut 2 appL (aC (eTup (aC (e2 ixE (eN 4) (eC (.int 0))) (aC (e2 ixE (eN 4) (eC (.int 1))) aN))) aN)))
/-- Table.__init__(self, rows): slots 0 self, 1 rows, 2 found, 3 number, 4 row -/
def F_Table___init__ : List D → R D := dInit "Table" 5 (sSeq (sSet 2 (eLst aN)) (sSeq (sFor (iEnum (aC (eN 1) aN)) (gT (gsC (gN 3) (gsC (gN 4) gsN))) L_Table___init___1) (sFldC 0 "Table" "_rows" (eN 2))))
def L_plain_groups_1 : S1 := (sSeq (sSet 4 (eGet (eN 1) (eN 2) (eTup (aC (eC (.int 0)) (aC (eC (.int 0)) aN))))) (sPut 1 (eN 2) (eTup (aC (e2 addD (e2 ixE (eN 4) (eC (.int 0))) (eC (.int 1))) (aC (e2 addD (e2 ixE (eN 4) (eC (.int 1))) (eN 3)) aN)))))
/-- plain_groups(table): slots 0 table, 1 sums, 2 key, 3 worth, 4 before, 5 keys -/
def F_plain_groups : List D → R D := dDef 6 (sSeq (sSet 1 (eC (.dct []))) (sSeq (sFor (iOwn "Table" "_rows" (eN 0)) (gT (gsC (gN 2) (gsC (gN 3) gsN))) L_plain_groups_1) (sSeq (sSet 5 (e1 sortD (eLc [2] (iKeysD (eN 1)) (gN 2) (tVal (e2 notND (eN 2) (eC .non))) (eN 2)))) (sSeq (sIf (tVal (e2 (memD false) (eC .non) (eN 1))) (sMut 5 appL (aC (eC .non) aN)) sNx) (sRet (eLc [2] (iSeq (eN 5)) (gN 2) tY (eTup (aC (eN 2) (aC (e2 ixE (e2 ixE (eN 1) (eN 2)) (eC (.int 0))) (aC (e2 ixE (e2 ixE (eN 1) (eN 2)) (eC (.int 1))) aN))))))))))
def L_law_is_tuples_1 : S1 := (sSeq (sSet 4 (e2 ixE (e2 ixE (eN 0) (eN 2)) (eN 3))) (sIf (tAndD (tVal (e2 notND (eN 4) (eC .non))) (tOrD (tNotD (tVal (e1 (isi1 "int") (eN 4)))) (tVal (e1 (isi1 "bool") (eN 4))))) (sRet (eC (.bl false))) sNx))
def L_law_is_tuples_2 : S1 := (sSeq (sIf (tOrD (tNotD (tVal (e1 (isi1 "tuple") (e2 ixE (eN 0) (eN 2))))) (tVal (e2 neD (e1 lenD (e2 ixE (eN 0) (eN 2))) (e1 lenD (e2 ixE (eN 1) (eN 2)))))) (sRet (eC (.bl false))) sNx) (sFor (iRng1 (aC (e1 lenD (e2 ixE (eN 1) (eN 2))) aN)) (gN 3) L_law_is_tuples_1))
/-- _law_is_tuples(_law_told, _law_due): slots 0 _law_told, 1 _law_due, 2 _law_k, 3 _law_place, 4 _law_number -/
def F_law_is_tuples : List D → R D := dDef 5 (sSeq (sIf (tOrD (tNotD (tVal (e1 (isi1 "list") (eN 0)))) (tVal (e2 neD (e1 lenD (eN 0)) (e1 lenD (eN 1))))) (sRet (eC (.bl false))) sNx) (sSeq (sFor (iRng1 (aC (e1 lenD (eN 1)) aN)) (gN 2) L_law_is_tuples_2) (sRet (e2 eqD (eN 0) (eN 1)))))
def L_Table_entries_1 : S1 := (sIf (tVal (e2 notND (e2 ixE (eN 3) (eC (.int 0))) (eC .non))) (sMut 1 appL (aC (eTup (aC (e2 ixE (eN 3) (eC (.int 0))) (aC (eN 2) aN))) aN)) sNx)
/-- Table.entries(self): slots 0 self, 1 found, 2 number, 3 row -/
def F_Table_entries : List D → R D := dDef 4 (sSeq (sSet 1 (eLst aN)) (sSeq (sFor (iEnum (aC (e1 (eFld "Table" "_rows") (eN 0)) aN)) (gT (gsC (gN 2) (gsC (gN 3) gsN))) L_Table_entries_1) (sRet (e1 sortD (eN 1)))))
/-- group_depth_bounds(table, room): slots 0 table, 1 room, 2 keys, 3 key, 4 _, 5 rank -/
def F_group_depth_bounds : List D → R D := dDef 6 (sSeq (sSet 2 (eSortSet [3, 4] (iSeq (eMeth "Table" "entries" F_Table_entries [] (eN 0) aN)) (gT (gsC (gN 3) (gsC (gN 4) gsN))) tY (eN 3))) (sRet (eLc [5, 3] (iEnum (aC (eN 2) aN)) (gT (gsC (gN 5) (gsC (gN 3) gsN))) tY (eTup (aC (eN 3) (aC (e2 fdivD (eN 5) (eN 1)) aN))))))
/-- Table.__len__(self): slots 0 self -/
def F_Table___len__ : List D → R D := dDef 1 (sRet (e1 lenD (e1 (eFld "Table" "_rows") (eN 0))))
def L_law_1 : S1 := (sIf (tAndD (tVal (e2 notND (e2 ixE (eN 5) (eC (.int 0))) (eC .non))) (tVal (e2 (memD true) (e2 ixE (eN 5) (eC (.int 0))) (eN 7)))) (sMut 7 appL (aC (e2 ixE (eN 5) (eC (.int 0))) aN)) sNx)
def L_law_2 : S1 := (sSeq (sSet 10 (eLc [5] (iSeq (eN 4)) (gN 5) (tAndD (tVal (e2 notND (e2 ixE (eN 5) (eC (.int 0))) (eC .non))) (tVal (e2 eqD (e2 ixE (eN 5) (eC (.int 0))) (eN 9)))) (e2 ixE (eN 5) (eC (.int 1))))) (sMut 8 appL (aC (eTup (aC (eN 9) (aC (e1 lenD (eN 10)) (aC (e1 sumD (eN 10)) aN)))) aN)))
def K_law_14 : S1 := (sSeq (sSet 13 (eCall F_plain_groups [] (aC (eN 12) aN))) (sSeq (sIf (tSt (tSt (tNotD (tVal (eCall F_law_is_tuples [] (aC (eN 13) (aC (eN 8) aN))))))) (sRet (eC (.bl false))) sNx) (sSeq (sMut 13 appL (aC (eTup (aC (eC (.int 0)) (aC (eC (.int 0)) (aC (eC (.int 0)) aN)))) aN)) (sSeq (sSet 14 (eLc [15] (iRng1 (aC (e1 lenD (eN 7)) aN)) (gN 15) tY (eTup (aC (e2 ixE (eN 7) (eN 15)) (aC (e2 fdivD (eN 15) (eN 6)) aN))))) (sSeq (sSet 16 (eCall F_group_depth_bounds [] (aC (eN 12) (aC (eN 6) aN)))) (sSeq (sIf (tSt (tNotD (tVal (eCall F_law_is_tuples [] (aC (eN 16) (aC (eN 14) aN)))))) (sRet (eC (.bl false))) sNx) (sSeq (sMut 16 revL aN) (sRet (eAnd (eCall F_law_is_tuples [] (aC (eCall F_plain_groups [] (aC (eN 12) aN)) (aC (eN 8) aN))) (e2 eqD (e1 (listOwn "Table" "_rows" F_Table___len__) (eN 12)) (eN 4)))))))))))
def K_law_12 : S1 := (sSeq (sIf (tVal (e2 gtD (e1 lenD (eN 11)) (eC (.int 0)))) (sMut 8 appL (aC (eTup (aC (eC .non) (aC (e1 lenD (eN 11)) (aC (e1 sumD (eN 11)) aN)))) aN)) sNx) (sSeq (sSet 12 (eMake F_Table___init__ [] (aC (e1 listD (eN 4)) aN))) K_law_14))
def K_law_8 : S1 := (sSeq (sSet 7 (e1 sortD (eN 7))) (sSeq (sSet 8 (eLst aN)) (sSeq (sFor (iSeq (eN 7)) (gN 9) L_law_2) (sSeq (sSet 11 (eLc [5] (iSeq (eN 4)) (gN 5) (tVal (e2 isND (e2 ixE (eN 5) (eC (.int 0))) (eC .non))) (e2 ixE (eN 5) (eC (.int 1))))) K_law_12))))
def K_law_5 : S1 := (sSeq (sSet 6 (e2 addD (eC (.int 1)) (e2 modD (e1 intD (e2 ixE (eN 1) (eC (.int 4)))) (eC (.int 9))))) (sSeq (sSet 7 (eLst aN)) (sSeq (sFor (iSeq (eN 4)) (gN 5) L_law_1) K_law_8)))
/-- law(_law_script): slots 0 _law_script, 1 _law_shape, 2 _law_spread, 3 _law_step, 4 _law_rows_here, 5 _law_row, 6 _law_room, 7 _law_keys, 8 _law_due, 9 _law_key, 10 _law_worths, 11 _law_lone, 12 _law_table, 13 _law_told, 14 _law_bounds, 15 _law_k, 16 _law_depths -/
def F_law : List D → R D := dDef 17 (sSeq (sSet 1 (eCall F_law_draws [] (aC (eN 0) (aC (eC (.int 0)) (aC (eC (.int 5)) aN))))) (sSeq (sSet 2 (e2 addD (eC (.int 1)) (e2 modD (e1 intD (e2 ixE (eN 1) (eC (.int 1)))) (eC (.int 12))))) (sSeq (sSet 3 (e2 ixE (eLst (aC (eC (.int 1)) (aC (eC (.int 1000000007)) (aC (e1 negD (eC (.int 1))) aN)))) (e2 modD (e1 intD (e2 ixE (eN 1) (eC (.int 2)))) (eC (.int 3))))) (sSeq (sSet 4 (eCall F_law_rows [] (aC (eN 0) (aC (eC (.int 1)) (aC (e2 modD (e1 intD (e2 ixE (eN 1) (eC (.int 0)))) (eC (.int 41))) (aC (eN 2) (aC (eN 3) aN))))))) (sSeq (sIf (tVal (e2 eqD (e2 modD (e1 intD (e2 ixE (eN 1) (eC (.int 3)))) (eC (.int 3))) (eC (.int 1)))) (sSet 4 (eLc [5] (iSeq (eN 4)) (gN 5) tY (eTup (aC (e2 ixE (eN 5) (eC (.int 0))) (aC (e2 mulD (e2 ixE (eN 5) (eC (.int 1))) (e2 powD (eC (.int 10)) (eC (.int 20)))) aN))))) sNx) K_law_5)))))
end Law
namespace Law
open VS
theorem draws_ok (ns : List Int) (at' many : Nat) (hm : many ≤ 1000) : ∃ ds : List Int, ds.length = many ∧ (∀ d ∈ ds, 0 ≤ d ∧ d < 1000) ∧ F_law_draws [.scr (ns.map D.int), .int at', .int many] = .ok (.lst (ds.map D.int)) := by
  -- the number
  obtain ⟨num, h0, hnum⟩ : ∃ num : Int, 0 ≤ num ∧ ∀ k : S1, thenO (condO (.ok (decide ((at' : Int) < (ns.map D.int).length))) (sSet 3 (e1 absD (e2 ixE (eN 0) (eN 1)))) sNx [some (.scr (ns.map D.int)), some (.int at'), some (.int many), some (.int 0), none, none, none, none, none]) k = k [some (.scr (ns.map D.int)), some (.int at'), some (.int many), some (.int num), none, none, none, none, none] := by
    by_cases h : at' < ns.length
    · refine ⟨if ns[at'] < 0 then -ns[at'] else ns[at'], by split <;> omega, fun k => ?_⟩
      rw [decide_eq_true (by simpa using h)]
      have e : ixE (.scr (ns.map D.int)) (.int at') = .ok (.int ns[at']) := ixE_s (by omega) (by simp [h])
      simp only [dDef_s, sSeq_s, sIf_s, sSet_s, sRet_s, sFor_s, sNx_s, thenO_nx, thenO_rt, condO_t, condO_f, setO_ok, retO_ok, forO_ok, eN_s, getS_0, getS_s, eC_s, e1_s, e2_s, aN_s, aC_s, eTup_s, eLst_s, tupO_0, tupO_1, tupO_2, tupO_3, tupO_4, lstO_0, lstO_1, lstO_2, lstO_3, lstO_4, eCall_s, eMake_s, eMeth_s, tVal_s, bvO_s, tAndD_s, tOrD_s, andO_t, andO_f, orO_t, orO_f, tNotD_s, tSt_s, strict_ok, eAnd_s, eandO_t, eandO_f, eOr_s, eorO_t, eorO_f, eIf_s, eifO_t, eifO_f, iRng1_s, iRng2_s, iEnum_s, enumD_s, iSeq_s, seqD_l, seqD_t, iOwn_s, iKeysD_s, keysD_s, eGet_s, getO_s, sMut_s, mutO_s, sPut_s, putO_s, addD_s, subD_s, ltD_s, leD_s, gtD_s, geD_s, eqD_ii, neD_ii, intD_s, lenD_l, lenD_t, lenD_s, negD_s, isND_n, isND_i, notND_n, notND_i, bind_o, outD_rt, absD_s, gN_s, gT_s, gsC_s, gsN_s, notD_s, ixE_t0, ixE_t1, ixE_t2, ixE_l0, ixE_l1, ixE_l2, ixE_l3, ixE_l4, List.set_cons_zero, List.set_cons_succ, List.nil_append, List.cons_append, List.append_nil, e]
    · refine ⟨0, by omega, fun k => ?_⟩
      rw [decide_eq_false (by simpa using h)]
      simp only [dDef_s, sSeq_s, sIf_s, sSet_s, sRet_s, sFor_s, sNx_s, thenO_nx, thenO_rt, condO_t, condO_f, setO_ok, retO_ok, forO_ok, eN_s, getS_0, getS_s, eC_s, e1_s, e2_s, aN_s, aC_s, eTup_s, eLst_s, tupO_0, tupO_1, tupO_2, tupO_3, tupO_4, lstO_0, lstO_1, lstO_2, lstO_3, lstO_4, eCall_s, eMake_s, eMeth_s, tVal_s, bvO_s, tAndD_s, tOrD_s, andO_t, andO_f, orO_t, orO_f, tNotD_s, tSt_s, strict_ok, eAnd_s, eandO_t, eandO_f, eOr_s, eorO_t, eorO_f, eIf_s, eifO_t, eifO_f, iRng1_s, iRng2_s, iEnum_s, enumD_s, iSeq_s, seqD_l, seqD_t, iOwn_s, iKeysD_s, keysD_s, eGet_s, getO_s, sMut_s, mutO_s, sPut_s, putO_s, addD_s, subD_s, ltD_s, leD_s, gtD_s, geD_s, eqD_ii, neD_ii, intD_s, lenD_l, lenD_t, lenD_s, negD_s, isND_n, isND_i, notND_n, notND_i, bind_o, outD_rt, absD_s, gN_s, gT_s, gsC_s, gsN_s, notD_s, ixE_t0, ixE_t1, ixE_t2, ixE_l0, ixE_l1, ixE_l2, ixE_l3, ixE_l4, List.set_cons_zero, List.set_cons_succ, List.nil_append, List.cons_append, List.append_nil]
  have hr : rng1D [.int (many : Int)] = .ok (nums 0 many) := rng1D_nat (by omega)
  have hp : powD (.int 10) (.int 18) = .ok (.int 1000000000000000000) := powD_s (by decide) (by decide) (by decide)
  unfold F_law_draws
  simp only [dDef_s, sSeq_s, sIf_s, sSet_s, sRet_s, sFor_s, sNx_s, thenO_nx, thenO_rt, condO_t, condO_f, setO_ok, retO_ok, forO_ok, eN_s, getS_0, getS_s, eC_s, e1_s, e2_s, aN_s, aC_s, eTup_s, eLst_s, tupO_0, tupO_1, tupO_2, tupO_3, tupO_4, lstO_0, lstO_1, lstO_2, lstO_3, lstO_4, eCall_s, eMake_s, eMeth_s, tVal_s, bvO_s, tAndD_s, tOrD_s, andO_t, andO_f, orO_t, orO_f, tNotD_s, tSt_s, strict_ok, eAnd_s, eandO_t, eandO_f, eOr_s, eorO_t, eorO_f, eIf_s, eifO_t, eifO_f, iRng1_s, iRng2_s, iEnum_s, enumD_s, iSeq_s, seqD_l, seqD_t, iOwn_s, iKeysD_s, keysD_s, eGet_s, getO_s, sMut_s, mutO_s, sPut_s, putO_s, addD_s, subD_s, ltD_s, leD_s, gtD_s, geD_s, eqD_ii, neD_ii, intD_s, lenD_l, lenD_t, lenD_s, negD_s, isND_n, isND_i, notND_n, notND_i, bind_o, outD_rt, absD_s, gN_s, gT_s, gsC_s, gsN_s, notD_s, ixE_t0, ixE_t1, ixE_t2, ixE_l0, ixE_l1, ixE_l2, ixE_l3, ixE_l4, List.set_cons_zero, List.set_cons_succ, List.nil_append, List.cons_append, List.append_nil, startD, List.map_cons, List.map_nil, List.length_cons, List.length_nil, Nat.reduceAdd, Nat.reduceSub, List.reduceReplicate]
  rw [hnum]
  simp only [dDef_s, sSeq_s, sIf_s, sSet_s, sRet_s, sFor_s, sNx_s, thenO_nx, thenO_rt, condO_t, condO_f, setO_ok, retO_ok, forO_ok, eN_s, getS_0, getS_s, eC_s, e1_s, e2_s, aN_s, aC_s, eTup_s, eLst_s, tupO_0, tupO_1, tupO_2, tupO_3, tupO_4, lstO_0, lstO_1, lstO_2, lstO_3, lstO_4, eCall_s, eMake_s, eMeth_s, tVal_s, bvO_s, tAndD_s, tOrD_s, andO_t, andO_f, orO_t, orO_f, tNotD_s, tSt_s, strict_ok, eAnd_s, eandO_t, eandO_f, eOr_s, eorO_t, eorO_f, eIf_s, eifO_t, eifO_f, iRng1_s, iRng2_s, iEnum_s, enumD_s, iSeq_s, seqD_l, seqD_t, iOwn_s, iKeysD_s, keysD_s, eGet_s, getO_s, sMut_s, mutO_s, sPut_s, putO_s, addD_s, subD_s, ltD_s, leD_s, gtD_s, geD_s, eqD_ii, neD_ii, intD_s, lenD_l, lenD_t, lenD_s, negD_s, isND_n, isND_i, notND_n, notND_i, bind_o, outD_rt, absD_s, gN_s, gT_s, gsC_s, gsN_s, notD_s, ixE_t0, ixE_t1, ixE_t2, ixE_l0, ixE_l1, ixE_l2, ixE_l3, ixE_l4, List.set_cons_zero, List.set_cons_succ, List.nil_append, List.cons_append, List.append_nil, hp, hr]
  generalize hbig : decide ((1000000000000000000 : Int) ≤ num) = big
  refine Exists.elim (fLoop_nx (g := gN 6) (b := L_law_draws_1) (fun i s => ∃ (num : Int) (ds : List Int) (x6 x7 x8 : Option D), ds.length = i ∧ (∀ d ∈ ds, 0 ≤ d ∧ d < 1000) ∧ 0 ≤ num ∧ (big = false → num < 1000000000000000000) ∧ s = [some (.scr (ns.map D.int)), some (.int at'), some (.int many), some (.int num), some (.bl big), some (.lst (ds.map D.int)), x6, x7, x8]) (nums 0 many) 0 [some (.scr (ns.map D.int)), some (.int at'), some (.int many), some (.int num), some (.bl big), some (.lst []), none, none, none]
    ⟨num, [], none, none, none, rfl, by simp, h0, fun z => by rw [z] at hbig; simpa using hbig, rfl⟩ (fun i d s hd hs => ?_)) (fun s' ⟨h1, h2⟩ => ?_)
  · obtain ⟨num', ds, x6, x7, x8, g1, g2, g3, g4, rfl⟩ := hs
    obtain ⟨hi, rfl⟩ := nums_get hd
    have hlen : (ds.map D.int).length < 16000000 := by rw [List.length_map]; omega
    have hk0 : (0 : Int) + (i : Int) = (i : Int) := by omega
    rw [hk0]
    refine ⟨_, rfl, ?_⟩
    unfold L_law_draws_1
    cases big with
    | true =>
      refine ⟨[some (.scr (ns.map D.int)), some (.int at'), some (.int many), some (.int (num' / 1000)), some (.bl true), some (.lst ((ds ++ [num' % 1000]).map D.int)), some (.int i), some (.int (num' % 1000)), x8], .inl ?_, num' / 1000, ds ++ [num' % 1000], _, _, _, by simp [g1], ?_, by omega, by simp, rfl⟩
      · simp (disch := omega) only [dDef_s, sSeq_s, sIf_s, sSet_s, sRet_s, sFor_s, sNx_s, thenO_nx, thenO_rt, condO_t, condO_f, setO_ok, retO_ok, forO_ok, eN_s, getS_0, getS_s, eC_s, e1_s, e2_s, aN_s, aC_s, eTup_s, eLst_s, tupO_0, tupO_1, tupO_2, tupO_3, tupO_4, lstO_0, lstO_1, lstO_2, lstO_3, lstO_4, eCall_s, eMake_s, eMeth_s, tVal_s, bvO_s, tAndD_s, tOrD_s, andO_t, andO_f, orO_t, orO_f, tNotD_s, tSt_s, strict_ok, eAnd_s, eandO_t, eandO_f, eOr_s, eorO_t, eorO_f, eIf_s, eifO_t, eifO_f, iRng1_s, iRng2_s, iEnum_s, enumD_s, iSeq_s, seqD_l, seqD_t, iOwn_s, iKeysD_s, keysD_s, eGet_s, getO_s, sMut_s, mutO_s, sPut_s, putO_s, addD_s, subD_s, ltD_s, leD_s, gtD_s, geD_s, eqD_ii, neD_ii, intD_s, lenD_l, lenD_t, lenD_s, negD_s, isND_n, isND_i, notND_n, notND_i, bind_o, outD_rt, absD_s, gN_s, gT_s, gsC_s, gsN_s, notD_s, ixE_t0, ixE_t1, ixE_t2, ixE_l0, ixE_l1, ixE_l2, ixE_l3, ixE_l4, List.set_cons_zero, List.set_cons_succ, List.nil_append, List.cons_append, List.append_nil, modD_s, fdivD_s, mut2_app hlen, List.map_append, List.map_cons, List.map_nil]
      · intro d hd
        rcases List.mem_append.mp hd with h | h
        · exact g2 d h
        · simp at h; omega
    | false =>
      have hb := g4 rfl
      by_cases hpos : 0 < num'
      · have hd : decide (0 < num') = true := decide_eq_true hpos
        generalize hm1 : (num' * (48271 + 6 * (i : Int)) + 69621 * (i : Int)) % 2147483647 = m1
        have hm1' : 0 ≤ m1 ∧ m1 < 2147483647 := by omega
        generalize hm2 : (m1 * m1 + 40692 * (i : Int) + 1) % 2147483629 = m2
        refine ⟨[some (.scr (ns.map D.int)), some (.int at'), some (.int many), some (.int num'), some (.bl false), some (.lst ((ds ++ [m2 % 1000]).map D.int)), some (.int i), some (.int (m2 % 1000)), some (.int m2)], .inl ?_, num', ds ++ [m2 % 1000], _, _, _, by simp [g1], ?_, by omega, fun _ => hb, rfl⟩
        · have e1 : mulD (.int num') (.int (48271 + 6 * (i : Int))) = .ok (.int (num' * (48271 + 6 * (i : Int)))) := mulD_r (by omega) (by omega)
          have e2 : mulD (.int 6) (.int (i : Int)) = .ok (.int (6 * (i : Int))) := mulD_l (by omega) (by omega)
          have e3 : mulD (.int 69621) (.int (i : Int)) = .ok (.int (69621 * (i : Int))) := mulD_l (by omega) (by omega)
          have e4 : mulD (.int m1) (.int m1) = .ok (.int (m1 * m1)) := mulD_l (by omega) (by omega)
          have e5 : mulD (.int 40692) (.int (i : Int)) = .ok (.int (40692 * (i : Int))) := mulD_l (by omega) (by omega)
          simp (disch := omega) only [dDef_s, sSeq_s, sIf_s, sSet_s, sRet_s, sFor_s, sNx_s, thenO_nx, thenO_rt, condO_t, condO_f, setO_ok, retO_ok, forO_ok, eN_s, getS_0, getS_s, eC_s, e1_s, e2_s, aN_s, aC_s, eTup_s, eLst_s, tupO_0, tupO_1, tupO_2, tupO_3, tupO_4, lstO_0, lstO_1, lstO_2, lstO_3, lstO_4, eCall_s, eMake_s, eMeth_s, tVal_s, bvO_s, tAndD_s, tOrD_s, andO_t, andO_f, orO_t, orO_f, tNotD_s, tSt_s, strict_ok, eAnd_s, eandO_t, eandO_f, eOr_s, eorO_t, eorO_f, eIf_s, eifO_t, eifO_f, iRng1_s, iRng2_s, iEnum_s, enumD_s, iSeq_s, seqD_l, seqD_t, iOwn_s, iKeysD_s, keysD_s, eGet_s, getO_s, sMut_s, mutO_s, sPut_s, putO_s, addD_s, subD_s, ltD_s, leD_s, gtD_s, geD_s, eqD_ii, neD_ii, intD_s, lenD_l, lenD_t, lenD_s, negD_s, isND_n, isND_i, notND_n, notND_i, bind_o, outD_rt, absD_s, gN_s, gT_s, gsC_s, gsN_s, notD_s, ixE_t0, ixE_t1, ixE_t2, ixE_l0, ixE_l1, ixE_l2, ixE_l3, ixE_l4, List.set_cons_zero, List.set_cons_succ, List.nil_append, List.cons_append, List.append_nil, hd, e1, e2, e3, modD_s, hm1, e4, e5, hm2, mut2_app hlen, List.map_append, List.map_cons, List.map_nil]
        · intro d hd
          rcases List.mem_append.mp hd with h | h
          · exact g2 d h
          · simp at h; omega
      · have hd : decide (0 < num') = false := decide_eq_false hpos
        refine ⟨[some (.scr (ns.map D.int)), some (.int at'), some (.int many), some (.int num'), some (.bl false), some (.lst ((ds ++ [0]).map D.int)), some (.int i), some (.int 0), x8], .inl ?_, num', ds ++ [0], _, _, _, by simp [g1], ?_, by omega, fun _ => hb, rfl⟩
        · simp (disch := omega) only [dDef_s, sSeq_s, sIf_s, sSet_s, sRet_s, sFor_s, sNx_s, thenO_nx, thenO_rt, condO_t, condO_f, setO_ok, retO_ok, forO_ok, eN_s, getS_0, getS_s, eC_s, e1_s, e2_s, aN_s, aC_s, eTup_s, eLst_s, tupO_0, tupO_1, tupO_2, tupO_3, tupO_4, lstO_0, lstO_1, lstO_2, lstO_3, lstO_4, eCall_s, eMake_s, eMeth_s, tVal_s, bvO_s, tAndD_s, tOrD_s, andO_t, andO_f, orO_t, orO_f, tNotD_s, tSt_s, strict_ok, eAnd_s, eandO_t, eandO_f, eOr_s, eorO_t, eorO_f, eIf_s, eifO_t, eifO_f, iRng1_s, iRng2_s, iEnum_s, enumD_s, iSeq_s, seqD_l, seqD_t, iOwn_s, iKeysD_s, keysD_s, eGet_s, getO_s, sMut_s, mutO_s, sPut_s, putO_s, addD_s, subD_s, ltD_s, leD_s, gtD_s, geD_s, eqD_ii, neD_ii, intD_s, lenD_l, lenD_t, lenD_s, negD_s, isND_n, isND_i, notND_n, notND_i, bind_o, outD_rt, absD_s, gN_s, gT_s, gsC_s, gsN_s, notD_s, ixE_t0, ixE_t1, ixE_t2, ixE_l0, ixE_l1, ixE_l2, ixE_l3, ixE_l4, List.set_cons_zero, List.set_cons_succ, List.nil_append, List.cons_append, List.append_nil, hd, mut2_app hlen, List.map_append, List.map_cons, List.map_nil]
        · intro d hd
          rcases List.mem_append.mp hd with h | h
          · exact g2 d h
          · simp at h; omega
  · rw [h1]
    obtain ⟨num', ds, x6, x7, x8, g1, g2, g3, g4, rfl⟩ := h2
    exact ⟨ds, by rw [g1, nums_len]; omega, g2, by simp only [dDef_s, sSeq_s, sIf_s, sSet_s, sRet_s, sFor_s, sNx_s, thenO_nx, thenO_rt, condO_t, condO_f, setO_ok, retO_ok, forO_ok, eN_s, getS_0, getS_s, eC_s, e1_s, e2_s, aN_s, aC_s, eTup_s, eLst_s, tupO_0, tupO_1, tupO_2, tupO_3, tupO_4, lstO_0, lstO_1, lstO_2, lstO_3, lstO_4, eCall_s, eMake_s, eMeth_s, tVal_s, bvO_s, tAndD_s, tOrD_s, andO_t, andO_f, orO_t, orO_f, tNotD_s, tSt_s, strict_ok, eAnd_s, eandO_t, eandO_f, eOr_s, eorO_t, eorO_f, eIf_s, eifO_t, eifO_f, iRng1_s, iRng2_s, iEnum_s, enumD_s, iSeq_s, seqD_l, seqD_t, iOwn_s, iKeysD_s, keysD_s, eGet_s, getO_s, sMut_s, mutO_s, sPut_s, putO_s, addD_s, subD_s, ltD_s, leD_s, gtD_s, geD_s, eqD_ii, neD_ii, intD_s, lenD_l, lenD_t, lenD_s, negD_s, isND_n, isND_i, notND_n, notND_i, bind_o, outD_rt, absD_s, gN_s, gT_s, gsC_s, gsN_s, notD_s, ixE_t0, ixE_t1, ixE_t2, ixE_l0, ixE_l1, ixE_l2, ixE_l3, ixE_l4, List.set_cons_zero, List.set_cons_succ, List.nil_append, List.cons_append, List.append_nil]⟩
abbrev Row := Option Int × Int
def kD : Option Int → D | none => .non | some k => .int k
def rD (r : Row) : D := .tup [kD r.1, .int r.2]
theorem rows_ok (ns : List Int) (many : Nat) (spread step : Int) (hm : many ≤ 40) (hs : 1 ≤ spread ∧ spread ≤ 12) (hst : -2000000000 ≤ step ∧ step ≤ 2000000000) :
    ∃ rows : List Row, rows.length = many ∧ (∀ r ∈ rows, -400 ≤ r.2 ∧ r.2 < 600) ∧ F_law_rows [.scr (ns.map D.int), .int 1, .int many, .int spread, .int step] = .ok (.lst (rows.map rD)) := by
  have hr : rng1D [.int (many : Int)] = .ok (nums 0 many) := rng1D_nat (by omega)
  unfold F_law_rows
  simp only [dDef_s, sSeq_s, sIf_s, sSet_s, sRet_s, sFor_s, sNx_s, thenO_nx, thenO_rt, condO_t, condO_f, setO_ok, retO_ok, forO_ok, eN_s, getS_0, getS_s, eC_s, e1_s, e2_s, aN_s, aC_s, eTup_s, eLst_s, tupO_0, tupO_1, tupO_2, tupO_3, tupO_4, lstO_0, lstO_1, lstO_2, lstO_3, lstO_4, eCall_s, eMake_s, eMeth_s, tVal_s, bvO_s, tAndD_s, tOrD_s, andO_t, andO_f, orO_t, orO_f, tNotD_s, tSt_s, strict_ok, eAnd_s, eandO_t, eandO_f, eOr_s, eorO_t, eorO_f, eIf_s, eifO_t, eifO_f, iRng1_s, iRng2_s, iEnum_s, enumD_s, iSeq_s, seqD_l, seqD_t, iOwn_s, iKeysD_s, keysD_s, eGet_s, getO_s, sMut_s, mutO_s, sPut_s, putO_s, addD_s, subD_s, ltD_s, leD_s, gtD_s, geD_s, eqD_ii, neD_ii, intD_s, lenD_l, lenD_t, lenD_s, negD_s, isND_n, isND_i, notND_n, notND_i, bind_o, outD_rt, absD_s, gN_s, gT_s, gsC_s, gsN_s, notD_s, ixE_t0, ixE_t1, ixE_t2, ixE_l0, ixE_l1, ixE_l2, ixE_l3, ixE_l4, List.set_cons_zero, List.set_cons_succ, List.nil_append, List.cons_append, List.append_nil, startD, List.map_cons, List.map_nil, List.length_cons, List.length_nil, Nat.reduceAdd, Nat.reduceSub, List.reduceReplicate, hr]
  refine Exists.elim (fLoop_nx (g := gN 6) (b := L_law_rows_1) (fun i s => ∃ (rows : List Row) (x6 x7 x8 : Option D), rows.length = i ∧ (∀ r ∈ rows, -400 ≤ r.2 ∧ r.2 < 600) ∧ s = [some (.scr (ns.map D.int)), some (.int 1), some (.int many), some (.int spread), some (.int step), some (.lst (rows.map rD)), x6, x7, x8]) (nums 0 many) 0 [some (.scr (ns.map D.int)), some (.int 1), some (.int many), some (.int spread), some (.int step), some (.lst []), none, none, none]
    ⟨[], none, none, none, rfl, by simp, rfl⟩ (fun i d s hd hs' => ?_)) (fun s' ⟨h1, h2⟩ => ?_)
  · obtain ⟨rows, x6, x7, x8, g1, g2, rfl⟩ := hs'
    obtain ⟨hi, rfl⟩ := nums_get hd
    have hlen : (rows.map rD).length < 16000000 := by rw [List.length_map]; omega
    have hk0 : (0 : Int) + (i : Int) = (i : Int) := by omega
    have hk1 : (1 : Int) + (i : Int) = ((1 + i : Nat) : Int) := by omega
    obtain ⟨ds, l1, l2, l3⟩ := draws_ok ns (1 + i) 3 (by omega)
    obtain ⟨a, b, c, rfl⟩ : ∃ a b c, ds = [a, b, c] := by
      match ds, l1 with
      | [a, b, c], _ => exact ⟨a, b, c, rfl⟩
    have hc := l2 c (by simp)
    have l3 : F_law_draws [.scr (ns.map D.int), .int ((1 + i : Nat) : Int), .int 3] = .ok (.lst [.int a, .int b, .int c]) := l3
    refine ⟨_, rfl, ?_⟩
    unfold L_law_rows_1
    rw [hk0]
    have hml : mulD (.int (b % spread - spread / 3)) (.int step) = .ok (.int ((b % spread - spread / 3) * step)) := mulD_r (by omega) (by omega)
    by_cases h7 : a % 8 = 7
    · refine ⟨_, .inl ?_, rows ++ [(none, c - 400)], some (.int i), some (.lst [.int a, .int b, .int c]), some .non, by simp [g1], ?_, rfl⟩
      rotate_left
      · intro r hr
        rcases List.mem_append.mp hr with h | h
        · exact g2 r h
        · simp at h; subst h; simp; omega
      · simp (disch := omega) only [dDef_s, sSeq_s, sIf_s, sSet_s, sRet_s, sFor_s, sNx_s, thenO_nx, thenO_rt, condO_t, condO_f, setO_ok, retO_ok, forO_ok, eN_s, getS_0, getS_s, eC_s, e1_s, e2_s, aN_s, aC_s, eTup_s, eLst_s, tupO_0, tupO_1, tupO_2, tupO_3, tupO_4, lstO_0, lstO_1, lstO_2, lstO_3, lstO_4, eCall_s, eMake_s, eMeth_s, tVal_s, bvO_s, tAndD_s, tOrD_s, andO_t, andO_f, orO_t, orO_f, tNotD_s, tSt_s, strict_ok, eAnd_s, eandO_t, eandO_f, eOr_s, eorO_t, eorO_f, eIf_s, eifO_t, eifO_f, iRng1_s, iRng2_s, iEnum_s, enumD_s, iSeq_s, seqD_l, seqD_t, iOwn_s, iKeysD_s, keysD_s, eGet_s, getO_s, sMut_s, mutO_s, sPut_s, putO_s, addD_s, subD_s, ltD_s, leD_s, gtD_s, geD_s, eqD_ii, neD_ii, intD_s, lenD_l, lenD_t, lenD_s, negD_s, isND_n, isND_i, notND_n, notND_i, bind_o, outD_rt, absD_s, gN_s, gT_s, gsC_s, gsN_s, notD_s, ixE_t0, ixE_t1, ixE_t2, ixE_l0, ixE_l1, ixE_l2, ixE_l3, ixE_l4, List.set_cons_zero, List.set_cons_succ, List.nil_append, List.cons_append, List.append_nil, hk1, l3, modD_s, fdivD_s, hml, h7, decide_true, mut2_app hlen, List.map_append, List.map_cons, List.map_nil, rD, kD]
    · refine ⟨_, .inl ?_, rows ++ [(some ((b % spread - spread / 3) * step), c - 400)], some (.int i), some (.lst [.int a, .int b, .int c]), some (.int ((b % spread - spread / 3) * step)), by simp [g1], ?_, rfl⟩
      rotate_left
      · intro r hr
        rcases List.mem_append.mp hr with h | h
        · exact g2 r h
        · simp at h; subst h; simp; omega
      · simp (disch := omega) only [dDef_s, sSeq_s, sIf_s, sSet_s, sRet_s, sFor_s, sNx_s, thenO_nx, thenO_rt, condO_t, condO_f, setO_ok, retO_ok, forO_ok, eN_s, getS_0, getS_s, eC_s, e1_s, e2_s, aN_s, aC_s, eTup_s, eLst_s, tupO_0, tupO_1, tupO_2, tupO_3, tupO_4, lstO_0, lstO_1, lstO_2, lstO_3, lstO_4, eCall_s, eMake_s, eMeth_s, tVal_s, bvO_s, tAndD_s, tOrD_s, andO_t, andO_f, orO_t, orO_f, tNotD_s, tSt_s, strict_ok, eAnd_s, eandO_t, eandO_f, eOr_s, eorO_t, eorO_f, eIf_s, eifO_t, eifO_f, iRng1_s, iRng2_s, iEnum_s, enumD_s, iSeq_s, seqD_l, seqD_t, iOwn_s, iKeysD_s, keysD_s, eGet_s, getO_s, sMut_s, mutO_s, sPut_s, putO_s, addD_s, subD_s, ltD_s, leD_s, gtD_s, geD_s, eqD_ii, neD_ii, intD_s, lenD_l, lenD_t, lenD_s, negD_s, isND_n, isND_i, notND_n, notND_i, bind_o, outD_rt, absD_s, gN_s, gT_s, gsC_s, gsN_s, notD_s, ixE_t0, ixE_t1, ixE_t2, ixE_l0, ixE_l1, ixE_l2, ixE_l3, ixE_l4, List.set_cons_zero, List.set_cons_succ, List.nil_append, List.cons_append, List.append_nil, hk1, l3, modD_s, fdivD_s, hml, decide_eq_false h7, mut2_app hlen, List.map_append, List.map_cons, List.map_nil, rD, kD]
  · rw [h1]
    obtain ⟨rows, x6, x7, x8, g1, g2, rfl⟩ := h2
    exact ⟨rows, by rw [g1, nums_len]; omega, g2, by simp only [dDef_s, sSeq_s, sIf_s, sSet_s, sRet_s, sFor_s, sNx_s, thenO_nx, thenO_rt, condO_t, condO_f, setO_ok, retO_ok, forO_ok, eN_s, getS_0, getS_s, eC_s, e1_s, e2_s, aN_s, aC_s, eTup_s, eLst_s, tupO_0, tupO_1, tupO_2, tupO_3, tupO_4, lstO_0, lstO_1, lstO_2, lstO_3, lstO_4, eCall_s, eMake_s, eMeth_s, tVal_s, bvO_s, tAndD_s, tOrD_s, andO_t, andO_f, orO_t, orO_f, tNotD_s, tSt_s, strict_ok, eAnd_s, eandO_t, eandO_f, eOr_s, eorO_t, eorO_f, eIf_s, eifO_t, eifO_f, iRng1_s, iRng2_s, iEnum_s, enumD_s, iSeq_s, seqD_l, seqD_t, iOwn_s, iKeysD_s, keysD_s, eGet_s, getO_s, sMut_s, mutO_s, sPut_s, putO_s, addD_s, subD_s, ltD_s, leD_s, gtD_s, geD_s, eqD_ii, neD_ii, intD_s, lenD_l, lenD_t, lenD_s, negD_s, isND_n, isND_i, notND_n, notND_i, bind_o, outD_rt, absD_s, gN_s, gT_s, gsC_s, gsN_s, notD_s, ixE_t0, ixE_t1, ixE_t2, ixE_l0, ixE_l1, ixE_l2, ixE_l3, ixE_l4, List.set_cons_zero, List.set_cons_succ, List.nil_append, List.cons_append, List.append_nil]⟩
theorem isi_ii {i} : isi1 "int" (.int i) = .ok (.bl true) := by unfold isi1; simp [tyD, isB]
theorem isi_bi {i} : isi1 "bool" (.int i) = .ok (.bl false) := by unfold isi1; simp [tyD, isB]
theorem isi_ll {l} : isi1 "list" (.lst l) = .ok (.bl true) := by unfold isi1; simp [tyD, isB]
theorem isi_tt {l} : isi1 "tuple" (.tup l) = .ok (.bl true) := by unfold isi1; simp [tyD, isB]
theorem isi_lt {l} : isi2 "list" "tuple" (.tup l) = .ok (.bl true) := by unfold isi2; simp [tyD, isB]
theorem is_integer_ok (i : Int) : F_is_integer [.int i] = .ok (.bl true) := by
  unfold F_is_integer
  simp only [dDef_s, sSeq_s, sIf_s, sSet_s, sRet_s, sFor_s, sNx_s, thenO_nx, thenO_rt, condO_t, condO_f, setO_ok, retO_ok, forO_ok, eN_s, getS_0, getS_s, eC_s, e1_s, e2_s, aN_s, aC_s, eTup_s, eLst_s, tupO_0, tupO_1, tupO_2, tupO_3, tupO_4, lstO_0, lstO_1, lstO_2, lstO_3, lstO_4, eCall_s, eMake_s, eMeth_s, tVal_s, bvO_s, tAndD_s, tOrD_s, andO_t, andO_f, orO_t, orO_f, tNotD_s, tSt_s, strict_ok, eAnd_s, eandO_t, eandO_f, eOr_s, eorO_t, eorO_f, eIf_s, eifO_t, eifO_f, iRng1_s, iRng2_s, iEnum_s, enumD_s, iSeq_s, seqD_l, seqD_t, iOwn_s, iKeysD_s, keysD_s, eGet_s, getO_s, sMut_s, mutO_s, sPut_s, putO_s, addD_s, subD_s, ltD_s, leD_s, gtD_s, geD_s, eqD_ii, neD_ii, intD_s, lenD_l, lenD_t, lenD_s, negD_s, isND_n, isND_i, notND_n, notND_i, bind_o, outD_rt, absD_s, gN_s, gT_s, gsC_s, gsN_s, notD_s, ixE_t0, ixE_t1, ixE_t2, ixE_l0, ixE_l1, ixE_l2, ixE_l3, ixE_l4, List.set_cons_zero, List.set_cons_succ, List.nil_append, List.cons_append, List.append_nil, startD, List.map_cons, List.map_nil, List.length_cons, List.length_nil, Nat.reduceAdd, Nat.reduceSub, List.reduceReplicate, isi_ii, isi_bi, Bool.not_false]
theorem is_row_ok (r : Row) : F_is_row [rD r] = .ok (.bl true) := by
  unfold F_is_row
  obtain ⟨k, v⟩ := r
  have h2 : decide (((2 : Nat) : Int) = 2) = true := by decide
  cases k <;> simp only [dDef_s, sSeq_s, sIf_s, sSet_s, sRet_s, sFor_s, sNx_s, thenO_nx, thenO_rt, condO_t, condO_f, setO_ok, retO_ok, forO_ok, eN_s, getS_0, getS_s, eC_s, e1_s, e2_s, aN_s, aC_s, eTup_s, eLst_s, tupO_0, tupO_1, tupO_2, tupO_3, tupO_4, lstO_0, lstO_1, lstO_2, lstO_3, lstO_4, eCall_s, eMake_s, eMeth_s, tVal_s, bvO_s, tAndD_s, tOrD_s, andO_t, andO_f, orO_t, orO_f, tNotD_s, tSt_s, strict_ok, eAnd_s, eandO_t, eandO_f, eOr_s, eorO_t, eorO_f, eIf_s, eifO_t, eifO_f, iRng1_s, iRng2_s, iEnum_s, enumD_s, iSeq_s, seqD_l, seqD_t, iOwn_s, iKeysD_s, keysD_s, eGet_s, getO_s, sMut_s, mutO_s, sPut_s, putO_s, addD_s, subD_s, ltD_s, leD_s, gtD_s, geD_s, eqD_ii, neD_ii, intD_s, lenD_l, lenD_t, lenD_s, negD_s, isND_n, isND_i, notND_n, notND_i, bind_o, outD_rt, absD_s, gN_s, gT_s, gsC_s, gsN_s, notD_s, ixE_t0, ixE_t1, ixE_t2, ixE_l0, ixE_l1, ixE_l2, ixE_l3, ixE_l4, List.set_cons_zero, List.set_cons_succ, List.nil_append, List.cons_append, List.append_nil, startD, rD, kD, List.map_cons, List.map_nil, List.length_cons, List.length_nil, Nat.reduceAdd, Nat.reduceSub, List.reduceReplicate, isi_lt, is_integer_ok, Bool.not_true, Bool.not_false, h2]
def tabD (rows : List Row) : D := .ins "Table" [("_rows", .lst (rows.map rD))]
theorem init_ok (rows : List Row) (hz : rows.length ≤ 1000) : F_Table___init__ [.lst (rows.map rD)] = .ok (tabD rows) := by
  unfold F_Table___init__ dInit
  simp only [dDef_s, sSeq_s, sIf_s, sSet_s, sRet_s, sFor_s, sNx_s, thenO_nx, thenO_rt, condO_t, condO_f, setO_ok, retO_ok, forO_ok, eN_s, getS_0, getS_s, eC_s, e1_s, e2_s, aN_s, aC_s, eTup_s, eLst_s, tupO_0, tupO_1, tupO_2, tupO_3, tupO_4, lstO_0, lstO_1, lstO_2, lstO_3, lstO_4, eCall_s, eMake_s, eMeth_s, tVal_s, bvO_s, tAndD_s, tOrD_s, andO_t, andO_f, orO_t, orO_f, tNotD_s, tSt_s, strict_ok, eAnd_s, eandO_t, eandO_f, eOr_s, eorO_t, eorO_f, eIf_s, eifO_t, eifO_f, iRng1_s, iRng2_s, iEnum_s, enumD_s, iSeq_s, seqD_l, seqD_t, iOwn_s, iKeysD_s, keysD_s, eGet_s, getO_s, sMut_s, mutO_s, sPut_s, putO_s, addD_s, subD_s, ltD_s, leD_s, gtD_s, geD_s, eqD_ii, neD_ii, intD_s, lenD_l, lenD_t, lenD_s, negD_s, isND_n, isND_i, notND_n, notND_i, bind_o, outD_rt, absD_s, gN_s, gT_s, gsC_s, gsN_s, notD_s, ixE_t0, ixE_t1, ixE_t2, ixE_l0, ixE_l1, ixE_l2, ixE_l3, ixE_l4, List.set_cons_zero, List.set_cons_succ, List.nil_append, List.cons_append, List.append_nil, startD, List.map_cons, List.map_nil, List.length_cons, List.length_nil, Nat.reduceAdd, Nat.reduceSub, List.reduceReplicate]
  refine Exists.elim (fLoop_nx (g := gT (gsC (gN 3) (gsC (gN 4) gsN))) (b := L_Table___init___1) (fun i s => ∃ (x3 x4 : Option D), s = [some (.ins "Table" []), some (.lst (rows.map rD)), some (.lst ((rows.take i).map rD)), x3, x4]) (enumL 0 (rows.map rD)) 0 [some (.ins "Table" []), some (.lst (rows.map rD)), some (.lst []), none, none]
    ⟨none, none, by simp⟩ (fun i d s hd hs' => ?_)) (fun s' ⟨h1, h2⟩ => ?_)
  · obtain ⟨x3, x4, rfl⟩ := hs'
    obtain ⟨d', hd', rfl⟩ := enumL_get hd
    rw [List.getElem?_map] at hd'
    cases hr : rows[i]? with
    | none => rw [hr] at hd'; cases hd'
    | some r =>
      rw [hr] at hd'
      cases hd'
      have hlen : ((rows.take (0 + i)).map rD).length < 16000000 := by rw [List.length_map, List.length_take]; omega
      have ht : rows.take (0 + i + 1) = rows.take (0 + i) ++ [r] := by rw [Nat.zero_add, List.take_add_one, hr]; rfl
      refine ⟨_, rfl, _, .inl ?_, some (.int (0 + (i : Int))), some (rD r), rfl⟩
      unfold L_Table___init___1
      rw [ht]
      have hrow := is_row_ok r
      obtain ⟨k, v⟩ := r
      have e0 : ixE (rD (k, v)) (.int 0) = .ok (kD k) := ixE_t0
      have e1 : ixE (rD (k, v)) (.int 1) = .ok (.int v) := ixE_t1
      simp only [dDef_s, sSeq_s, sIf_s, sSet_s, sRet_s, sFor_s, sNx_s, thenO_nx, thenO_rt, condO_t, condO_f, setO_ok, retO_ok, forO_ok, eN_s, getS_0, getS_s, eC_s, e1_s, e2_s, aN_s, aC_s, eTup_s, eLst_s, tupO_0, tupO_1, tupO_2, tupO_3, tupO_4, lstO_0, lstO_1, lstO_2, lstO_3, lstO_4, eCall_s, eMake_s, eMeth_s, tVal_s, bvO_s, tAndD_s, tOrD_s, andO_t, andO_f, orO_t, orO_f, tNotD_s, tSt_s, strict_ok, eAnd_s, eandO_t, eandO_f, eOr_s, eorO_t, eorO_f, eIf_s, eifO_t, eifO_f, iRng1_s, iRng2_s, iEnum_s, enumD_s, iSeq_s, seqD_l, seqD_t, iOwn_s, iKeysD_s, keysD_s, eGet_s, getO_s, sMut_s, mutO_s, sPut_s, putO_s, addD_s, subD_s, ltD_s, leD_s, gtD_s, geD_s, eqD_ii, neD_ii, intD_s, lenD_l, lenD_t, lenD_s, negD_s, isND_n, isND_i, notND_n, notND_i, bind_o, outD_rt, absD_s, gN_s, gT_s, gsC_s, gsN_s, notD_s, ixE_t0, ixE_t1, ixE_t2, ixE_l0, ixE_l1, ixE_l2, ixE_l3, ixE_l4, List.set_cons_zero, List.set_cons_succ, List.nil_append, List.cons_append, List.append_nil, hrow, e0, e1, Bool.not_true, mut2_app hlen, List.map_append, List.map_cons, List.map_nil]
      rfl
  · rw [h1]
    obtain ⟨x3, x4, rfl⟩ := h2
    have : rows.take (0 + (enumL 0 (rows.map rD)).length) = rows := by rw [enumL_len, List.length_map, Nat.zero_add, List.take_length]
    rw [this]
    rw [thenO_nx, sFldC_s (gs := []) (d := .lst (rows.map rD)) (by simp only [dDef_s, sSeq_s, sIf_s, sSet_s, sRet_s, sFor_s, sNx_s, thenO_nx, thenO_rt, condO_t, condO_f, setO_ok, retO_ok, forO_ok, eN_s, getS_0, getS_s, eC_s, e1_s, e2_s, aN_s, aC_s, eTup_s, eLst_s, tupO_0, tupO_1, tupO_2, tupO_3, tupO_4, lstO_0, lstO_1, lstO_2, lstO_3, lstO_4, eCall_s, eMake_s, eMeth_s, tVal_s, bvO_s, tAndD_s, tOrD_s, andO_t, andO_f, orO_t, orO_f, tNotD_s, tSt_s, strict_ok, eAnd_s, eandO_t, eandO_f, eOr_s, eorO_t, eorO_f, eIf_s, eifO_t, eifO_f, iRng1_s, iRng2_s, iEnum_s, enumD_s, iSeq_s, seqD_l, seqD_t, iOwn_s, iKeysD_s, keysD_s, eGet_s, getO_s, sMut_s, mutO_s, sPut_s, putO_s, addD_s, subD_s, ltD_s, leD_s, gtD_s, geD_s, eqD_ii, neD_ii, intD_s, lenD_l, lenD_t, lenD_s, negD_s, isND_n, isND_i, notND_n, notND_i, bind_o, outD_rt, absD_s, gN_s, gT_s, gsC_s, gsN_s, notD_s, ixE_t0, ixE_t1, ixE_t2, ixE_l0, ixE_l1, ixE_l2, ixE_l3, ixE_l4, List.set_cons_zero, List.set_cons_succ, List.nil_append, List.cons_append, List.append_nil]) (by simp only [dDef_s, sSeq_s, sIf_s, sSet_s, sRet_s, sFor_s, sNx_s, thenO_nx, thenO_rt, condO_t, condO_f, setO_ok, retO_ok, forO_ok, eN_s, getS_0, getS_s, eC_s, e1_s, e2_s, aN_s, aC_s, eTup_s, eLst_s, tupO_0, tupO_1, tupO_2, tupO_3, tupO_4, lstO_0, lstO_1, lstO_2, lstO_3, lstO_4, eCall_s, eMake_s, eMeth_s, tVal_s, bvO_s, tAndD_s, tOrD_s, andO_t, andO_f, orO_t, orO_f, tNotD_s, tSt_s, strict_ok, eAnd_s, eandO_t, eandO_f, eOr_s, eorO_t, eorO_f, eIf_s, eifO_t, eifO_f, iRng1_s, iRng2_s, iEnum_s, enumD_s, iSeq_s, seqD_l, seqD_t, iOwn_s, iKeysD_s, keysD_s, eGet_s, getO_s, sMut_s, mutO_s, sPut_s, putO_s, addD_s, subD_s, ltD_s, leD_s, gtD_s, geD_s, eqD_ii, neD_ii, intD_s, lenD_l, lenD_t, lenD_s, negD_s, isND_n, isND_i, notND_n, notND_i, bind_o, outD_rt, absD_s, gN_s, gT_s, gsC_s, gsN_s, notD_s, ixE_t0, ixE_t1, ixE_t2, ixE_l0, ixE_l1, ixE_l2, ixE_l3, ixE_l4, List.set_cons_zero, List.set_cons_succ, List.nil_append, List.cons_append, List.append_nil]) (by decide)]
    rfl
/-! what the groups are -/
def cnt (rows : List Row) (k : Option Int) : Int := ((rows.filter fun r => decide (r.1 = k)).length : Nat)
def sm (rows : List Row) (k : Option Int) : Int := ((rows.filter fun r => decide (r.1 = k)).map (·.2)).sum
def gD (rows : List Row) (k : Option Int) : D := .tup [kD k, .int (cnt rows k), .int (sm rows k)]
def ikeys (rows : List Row) : List Int := setL (rows.filterMap (·.1))
def gKeys (rows : List Row) : List (Option Int) := (ikeys rows).map some ++ if 0 < cnt rows none then [none] else []
def groups (rows : List Row) : D := .lst ((gKeys rows).map (gD rows))
theorem mem_ikeys {rows : List Row} {k : Int} : k ∈ ikeys rows ↔ some k ∈ rows.map (·.1) := by
  unfold ikeys
  rw [mem_setL, List.mem_filterMap, List.mem_map]
theorem mem_cnt {rows : List Row} {k : Option Int} : 0 < cnt rows k ↔ k ∈ rows.map (·.1) := by
  unfold cnt
  rw [List.mem_map]
  constructor
  · intro h
    have : 0 < (rows.filter fun r => decide (r.1 = k)).length := by omega
    obtain ⟨r, hr⟩ := List.exists_mem_of_length_pos this
    rw [List.mem_filter] at hr
    exact ⟨r, hr.1, of_decide_eq_true hr.2⟩
  · rintro ⟨r, hr, rfl⟩
    have : 0 < (rows.filter fun r' => decide (r'.1 = r.1)).length := List.length_pos_of_mem (List.mem_filter.mpr ⟨hr, decide_eq_true rfl⟩)
    omega
theorem cnt_snoc {rows : List Row} {r : Row} {k : Option Int} : cnt (rows ++ [r]) k = if r.1 = k then cnt rows k + 1 else cnt rows k := by
  unfold cnt
  rw [List.filter_append, List.length_append]
  by_cases h : r.1 = k
  · rw [if_pos h, List.filter_cons_of_pos (by simp [h])]; simp
  · rw [if_neg h, List.filter_cons_of_neg (by simp [h])]; simp
theorem sm_snoc {rows : List Row} {r : Row} {k : Option Int} : sm (rows ++ [r]) k = if r.1 = k then sm rows k + r.2 else sm rows k := by
  unfold sm
  rw [List.filter_append, List.map_append, List.sum_append]
  by_cases h : r.1 = k
  · rw [if_pos h, List.filter_cons_of_pos (by simp [h])]; simp
  · rw [if_neg h, List.filter_cons_of_neg (by simp [h])]; simp
theorem cnt_absent {rows : List Row} {k : Option Int} (h : k ∉ rows.map (·.1)) : cnt rows k = 0 ∧ sm rows k = 0 := by
  have e : (rows.filter fun r => decide (r.1 = k)) = [] := by
    rw [List.filter_eq_nil_iff]
    intro r hr
    simp only [decide_eq_true_eq]
    exact fun z => h (List.mem_map.mpr ⟨r, hr, z⟩)
  unfold cnt sm
  rw [e]
  exact ⟨rfl, rfl⟩
/-! the dict -/
def kl : Option Int → PySem.Leaf | none => .none | some k => .num k
theorem leaf_k (k : Option Int) : leafOf (kD k) = some (kl k) := by cases k <;> rfl
theorem keyIs_k (k j : Option Int) : keyIs (kl k) (kD j) = decide (j = k) := by
  unfold keyIs
  rw [leaf_k]
  cases k <;> cases j <;> simp [kl]
def sumsD (rows : List Row) (ks : List (Option Int)) : List (D × D) := ks.map fun k => (kD k, .tup [.int (cnt rows k), .int (sm rows k)])
theorem look_sums (rows : List Row) (k : Option Int) : ∀ (ks : List (Option Int)), dLook (sumsD rows ks) (kl k) = if k ∈ ks then some (.tup [.int (cnt rows k), .int (sm rows k)]) else none
  | [] => rfl
  | j :: ks => by
    have ih := look_sums rows k ks
    unfold dLook sumsD at ih ⊢
    rw [List.map_cons, List.find?_cons]
    show (match keyIs (kl k) (kD j) with | true => _ | false => _ : Option (D × D)).map _ = _
    rw [keyIs_k]
    by_cases h : j = k
    · subst h; simp
    · rw [decide_eq_false h]
      show Option.map _ (List.find? _ _) = _
      rw [ih]
      have h2 : ¬ k = j := fun z => h z.symm
      simp [h2]
theorem put_sums {rows : List Row} {r : Row} {ks : List (Option Int)} (hk : ks.Nodup) :
    dPut (sumsD rows ks) (kl r.1) (.tup [.int (cnt rows r.1 + 1), .int (sm rows r.1 + r.2)]) = sumsD (rows ++ [r]) (if r.1 ∈ ks then ks else ks ++ [r.1]) := by
  have hany : ((sumsD rows ks).any fun e => keyIs (kl r.1) e.1) = decide (r.1 ∈ ks) := by
    unfold sumsD
    rw [List.any_map]
    rw [Bool.eq_iff_iff]
    simp only [List.any_eq_true, Function.comp, keyIs_k, decide_eq_true_eq, exists_eq_right]
  have lk : leafD (kl r.1) = kD r.1 := by cases r.1 <;> rfl
  unfold dPut
  rw [hany]
  by_cases h : r.1 ∈ ks
  · rw [if_pos (decide_eq_true h), if_pos h]
    unfold sumsD
    rw [List.map_map]
    apply List.map_congr_left
    intro k hk'
    simp only [Function.comp, keyIs_k]
    by_cases e : k = r.1
    · subst e; simp [cnt_snoc, sm_snoc]
    · have e2 : ¬ r.1 = k := fun z => e z.symm
      simp [cnt_snoc, sm_snoc, e, e2]
  · rw [if_neg (by simp [h]), if_neg h]
    unfold sumsD
    rw [List.map_append, lk]
    congr 1
    · apply List.map_congr_left
      intro k hk'
      have e2 : ¬ r.1 = k := fun z => h (z ▸ hk')
      simp [cnt_snoc, sm_snoc, e2]
    · simp [cnt_snoc, sm_snoc]
theorem not_mem_absent {rows : List Row} {ks : List (Option Int)} {k : Option Int} (hm : ∀ k, k ∈ ks ↔ k ∈ rows.map (·.1)) (h : k ∉ ks) : cnt rows k = 0 ∧ sm rows k = 0 := cnt_absent fun z => h ((hm k).mpr z)
theorem lookD_sums {rows : List Row} {ks : List (Option Int)} {k : Option Int} (hm : ∀ k, k ∈ ks ↔ k ∈ rows.map (·.1)) : lookD (sumsD rows ks) (kD k) (.tup [.int 0, .int 0]) = .ok (.tup [.int (cnt rows k), .int (sm rows k)]) := by
  unfold lookD
  rw [leaf_k]
  show R.ok ((dLook (sumsD rows ks) (kl k)).getD _) = _
  rw [look_sums]
  by_cases h : k ∈ ks
  · rw [if_pos h]; rfl
  · rw [if_neg h, (not_mem_absent hm h).1, (not_mem_absent hm h).2]; rfl
theorem ixE_sums {rows : List Row} {ks : List (Option Int)} {k : Option Int} (h : k ∈ ks) : ixE (.dct (sumsD rows ks)) (kD k) = .ok (.tup [.int (cnt rows k), .int (sm rows k)]) := by
  show (match leafOf (kD k) with | some l => (match dLook (sumsD rows ks) l with | some d => R.ok d | none => .bad) | none => .bad) = _
  rw [leaf_k]
  show (match dLook (sumsD rows ks) (kl k) with | some d => R.ok d | none => .bad) = _
  rw [look_sums, if_pos h]
theorem memD_sums {rows : List Row} {ks : List (Option Int)} : memD false .non (.dct (sumsD rows ks)) = .ok (.bl (decide (none ∈ ks))) := by
  show (match leafOf (kD none) with | some l => R.ok (D.bl (if false = true then !(dLook (sumsD rows ks) l).isSome else (dLook (sumsD rows ks) l).isSome)) | none => .bad) = _
  rw [leaf_k]
  show R.ok (D.bl (dLook (sumsD rows ks) (kl none)).isSome) = _
  rw [look_sums]
  by_cases h : none ∈ ks
  · rw [if_pos h, decide_eq_true h]; rfl
  · rw [if_neg h, decide_eq_false h]; rfl
theorem notND_k (k : Option Int) : notND (kD k) .non = .ok (.bl k.isSome) := by cases k <;> rfl
theorem isND_k (k : Option Int) : isND (kD k) .non = .ok (.bl k.isNone) := by cases k <;> rfl
theorem filter_some : ∀ (ks : List (Option Int)), (ks.filter fun k => k.isSome).map kD = (ks.filterMap id).map D.int
  | [] => rfl
  | none :: ks => by simpa using filter_some ks
  | some k :: ks => by simpa [kD] using filter_some ks
theorem nodup_fm : ∀ {ks : List (Option Int)}, ks.Nodup → (ks.filterMap id).Nodup
  | [], _ => List.nodup_nil
  | none :: ks, h => by simpa using nodup_fm (List.nodup_cons.mp h).2
  | some k :: ks, h => by
    obtain ⟨h1, h2⟩ := List.nodup_cons.mp h
    rw [List.filterMap_cons_some (by rfl), List.nodup_cons]
    refine ⟨fun z => h1 ?_, nodup_fm h2⟩
    obtain ⟨a, ha, rfl⟩ := List.mem_filterMap.mp z
    exact ha
theorem insU_len (k : Int) : ∀ l : List Int, (insU k l).length ≤ l.length + 1
  | [] => by simp [insU]
  | x :: l => by
    unfold insU
    have := insU_len k l
    split
    · simp
    · split
      · simp
      · simp; omega
theorem setL_len : ∀ ns : List Int, (setL ns).length ≤ ns.length
  | [] => by simp [setL]
  | k :: ns => by
    have h1 := insU_len k (setL ns)
    have h2 := setL_len ns
    show (insU k (setL ns)).length ≤ _
    simp; omega
theorem ikeys_len (rows : List Row) : (ikeys rows).length ≤ rows.length := Nat.le_trans (setL_len _) (List.length_filterMap_le _ _)
theorem plain_ok (rows : List Row) (hz : rows.length ≤ 1000) : F_plain_groups [tabD rows] = .ok (groups rows) := by
  have ho : ownD "Table" "_rows" (tabD rows) = .ok (rows.map rD) := ownD_s (by simp)
  unfold F_plain_groups
  simp only [dDef_s, sSeq_s, sIf_s, sSet_s, sRet_s, sFor_s, sNx_s, thenO_nx, thenO_rt, condO_t, condO_f, setO_ok, retO_ok, forO_ok, eN_s, getS_0, getS_s, eC_s, e1_s, e2_s, aN_s, aC_s, eTup_s, eLst_s, tupO_0, tupO_1, tupO_2, tupO_3, tupO_4, lstO_0, lstO_1, lstO_2, lstO_3, lstO_4, eCall_s, eMake_s, eMeth_s, tVal_s, bvO_s, tAndD_s, tOrD_s, andO_t, andO_f, orO_t, orO_f, tNotD_s, tSt_s, strict_ok, eAnd_s, eandO_t, eandO_f, eOr_s, eorO_t, eorO_f, eIf_s, eifO_t, eifO_f, iRng1_s, iRng2_s, iEnum_s, enumD_s, iSeq_s, seqD_l, seqD_t, iOwn_s, iKeysD_s, keysD_s, eGet_s, getO_s, sMut_s, mutO_s, sPut_s, putO_s, addD_s, subD_s, ltD_s, leD_s, gtD_s, geD_s, eqD_ii, neD_ii, intD_s, lenD_l, lenD_t, lenD_s, negD_s, isND_n, isND_i, notND_n, notND_i, bind_o, outD_rt, absD_s, gN_s, gT_s, gsC_s, gsN_s, notD_s, ixE_t0, ixE_t1, ixE_t2, ixE_l0, ixE_l1, ixE_l2, ixE_l3, ixE_l4, List.set_cons_zero, List.set_cons_succ, List.nil_append, List.cons_append, List.append_nil, startD, List.map_cons, List.map_nil, List.length_cons, List.length_nil, Nat.reduceAdd, Nat.reduceSub, List.reduceReplicate, ho]
  refine Exists.elim (fLoop_nx (g := gT (gsC (gN 2) (gsC (gN 3) gsN))) (b := L_plain_groups_1) (fun i s => ∃ (ks : List (Option Int)) (x2 x3 x4 : Option D), ks.Nodup ∧ ks.length ≤ i ∧ (∀ k, k ∈ ks ↔ k ∈ (rows.take i).map (·.1)) ∧ s = [some (tabD rows), some (.dct (sumsD (rows.take i) ks)), x2, x3, x4, none]) (rows.map rD) 0 [some (tabD rows), some (.dct []), none, none, none, none]
    ⟨[], none, none, none, by simp, by simp, by simp, rfl⟩ (fun i d s hd hs' => ?_)) (fun s' ⟨h1, h2⟩ => ?_)
  · obtain ⟨ks, x2, x3, x4, g1, g0, g2, rfl⟩ := hs'
    rw [List.getElem?_map] at hd
    cases hr : rows[i]? with
    | none => rw [hr] at hd; cases hd
    | some r =>
      rw [hr] at hd
      cases hd
      have ht : rows.take (0 + i + 1) = rows.take (0 + i) ++ [r] := by rw [Nat.zero_add, List.take_add_one, hr]; rfl
      have hi : i < rows.length := (List.getElem?_eq_some_iff.mp hr).1
      generalize rows.take (0 + i) = rs at ht g2
      obtain ⟨k, v⟩ := r
      have hp := put_sums (rows := rs) (r := (k, v)) g1
      have hl := lookD_sums (k := k) g2
      have hzz : (sumsD rs ks).length < 16000000 := by unfold sumsD; rw [List.length_map]; omega
      refine ⟨[some (tabD rows), some (.dct (sumsD rs ks)), some (kD k), some (.int v), x4, none], rfl, [some (tabD rows), some (.dct (sumsD (rs ++ [(k, v)]) (if k ∈ ks then ks else ks ++ [k]))), some (kD k), some (.int v), some (.tup [.int (cnt rs k), .int (sm rs k)]), none], .inl ?_, (if k ∈ ks then ks else ks ++ [k]), _, _, _, ?_, ?_, ?_, by rw [ht]⟩
      · unfold L_plain_groups_1
        simp only [dDef_s, sSeq_s, sIf_s, sSet_s, sRet_s, sFor_s, sNx_s, thenO_nx, thenO_rt, condO_t, condO_f, setO_ok, retO_ok, forO_ok, eN_s, getS_0, getS_s, eC_s, e1_s, e2_s, aN_s, aC_s, eTup_s, eLst_s, tupO_0, tupO_1, tupO_2, tupO_3, tupO_4, lstO_0, lstO_1, lstO_2, lstO_3, lstO_4, eCall_s, eMake_s, eMeth_s, tVal_s, bvO_s, tAndD_s, tOrD_s, andO_t, andO_f, orO_t, orO_f, tNotD_s, tSt_s, strict_ok, eAnd_s, eandO_t, eandO_f, eOr_s, eorO_t, eorO_f, eIf_s, eifO_t, eifO_f, iRng1_s, iRng2_s, iEnum_s, enumD_s, iSeq_s, seqD_l, seqD_t, iOwn_s, iKeysD_s, keysD_s, eGet_s, getO_s, sMut_s, mutO_s, sPut_s, putO_s, addD_s, subD_s, ltD_s, leD_s, gtD_s, geD_s, eqD_ii, neD_ii, intD_s, lenD_l, lenD_t, lenD_s, negD_s, isND_n, isND_i, notND_n, notND_i, bind_o, outD_rt, absD_s, gN_s, gT_s, gsC_s, gsN_s, notD_s, ixE_t0, ixE_t1, ixE_t2, ixE_l0, ixE_l1, ixE_l2, ixE_l3, ixE_l4, List.set_cons_zero, List.set_cons_succ, List.nil_append, List.cons_append, List.append_nil, hl, put2_s (leaf_k k) hzz, hp]
      · split
        · exact g1
        · rename_i h
          exact List.nodup_append.mpr ⟨g1, by simp, by intro a ha b hb; simp at hb; subst hb; exact fun z => h (z ▸ ha)⟩
      · split
        · omega
        · rw [List.length_append]; simp; omega
      · intro j
        rw [ht, List.map_append, List.mem_append]
        split
        · rename_i h
          constructor
          · exact fun z => .inl ((g2 j).mp z)
          · rintro (z | z)
            · exact (g2 j).mpr z
            · simp at z; subst z; exact h
        · rw [List.mem_append, g2 j]; simp
  · rw [h1]
    obtain ⟨ks, x2, x3, x4, g1, g0, g2, rfl⟩ := h2
    have ht : rows.take (0 + (rows.map rD).length) = rows := by rw [List.length_map, Nat.zero_add, List.take_length]
    rw [ht] at g2 ⊢
    rw [List.length_map] at g0
    have hks : (sumsD rows ks).map (·.1) = ks.map kD := by unfold sumsD; rw [List.map_map]; rfl
    have hc1 : eLc [2] (iKeysD (eN 1)) (gN 2) (tVal (e2 notND (eN 2) (eC .non))) (eN 2) [some (tabD rows), some (.dct (sumsD rows ks)), x2, x3, x4, none] = .ok (.lst ((ks.filter fun k => k.isSome).map kD)) := by
      refine eLc_map kD (fun k => k.isSome) kD ks (by simp only [dDef_s, sSeq_s, sIf_s, sSet_s, sRet_s, sFor_s, sNx_s, thenO_nx, thenO_rt, condO_t, condO_f, setO_ok, retO_ok, forO_ok, eN_s, getS_0, getS_s, eC_s, e1_s, e2_s, aN_s, aC_s, eTup_s, eLst_s, tupO_0, tupO_1, tupO_2, tupO_3, tupO_4, lstO_0, lstO_1, lstO_2, lstO_3, lstO_4, eCall_s, eMake_s, eMeth_s, tVal_s, bvO_s, tAndD_s, tOrD_s, andO_t, andO_f, orO_t, orO_f, tNotD_s, tSt_s, strict_ok, eAnd_s, eandO_t, eandO_f, eOr_s, eorO_t, eorO_f, eIf_s, eifO_t, eifO_f, iRng1_s, iRng2_s, iEnum_s, enumD_s, iSeq_s, seqD_l, seqD_t, iOwn_s, iKeysD_s, keysD_s, eGet_s, getO_s, sMut_s, mutO_s, sPut_s, putO_s, addD_s, subD_s, ltD_s, leD_s, gtD_s, geD_s, eqD_ii, neD_ii, intD_s, lenD_l, lenD_t, lenD_s, negD_s, isND_n, isND_i, notND_n, notND_i, bind_o, outD_rt, absD_s, gN_s, gT_s, gsC_s, gsN_s, notD_s, ixE_t0, ixE_t1, ixE_t2, ixE_l0, ixE_l1, ixE_l2, ixE_l3, ixE_l4, List.set_cons_zero, List.set_cons_succ, List.nil_append, List.cons_append, List.append_nil, hks]) (by omega) fun k hk => ⟨_, rfl, ?_, fun _ => ?_⟩
      · simp only [dDef_s, sSeq_s, sIf_s, sSet_s, sRet_s, sFor_s, sNx_s, thenO_nx, thenO_rt, condO_t, condO_f, setO_ok, retO_ok, forO_ok, eN_s, getS_0, getS_s, eC_s, e1_s, e2_s, aN_s, aC_s, eTup_s, eLst_s, tupO_0, tupO_1, tupO_2, tupO_3, tupO_4, lstO_0, lstO_1, lstO_2, lstO_3, lstO_4, eCall_s, eMake_s, eMeth_s, tVal_s, bvO_s, tAndD_s, tOrD_s, andO_t, andO_f, orO_t, orO_f, tNotD_s, tSt_s, strict_ok, eAnd_s, eandO_t, eandO_f, eOr_s, eorO_t, eorO_f, eIf_s, eifO_t, eifO_f, iRng1_s, iRng2_s, iEnum_s, enumD_s, iSeq_s, seqD_l, seqD_t, iOwn_s, iKeysD_s, keysD_s, eGet_s, getO_s, sMut_s, mutO_s, sPut_s, putO_s, addD_s, subD_s, ltD_s, leD_s, gtD_s, geD_s, eqD_ii, neD_ii, intD_s, lenD_l, lenD_t, lenD_s, negD_s, isND_n, isND_i, notND_n, notND_i, bind_o, outD_rt, absD_s, gN_s, gT_s, gsC_s, gsN_s, notD_s, ixE_t0, ixE_t1, ixE_t2, ixE_l0, ixE_l1, ixE_l2, ixE_l3, ixE_l4, List.set_cons_zero, List.set_cons_succ, List.nil_append, List.cons_append, List.append_nil, wipeS, notND_k]
      · simp only [dDef_s, sSeq_s, sIf_s, sSet_s, sRet_s, sFor_s, sNx_s, thenO_nx, thenO_rt, condO_t, condO_f, setO_ok, retO_ok, forO_ok, eN_s, getS_0, getS_s, eC_s, e1_s, e2_s, aN_s, aC_s, eTup_s, eLst_s, tupO_0, tupO_1, tupO_2, tupO_3, tupO_4, lstO_0, lstO_1, lstO_2, lstO_3, lstO_4, eCall_s, eMake_s, eMeth_s, tVal_s, bvO_s, tAndD_s, tOrD_s, andO_t, andO_f, orO_t, orO_f, tNotD_s, tSt_s, strict_ok, eAnd_s, eandO_t, eandO_f, eOr_s, eorO_t, eorO_f, eIf_s, eifO_t, eifO_f, iRng1_s, iRng2_s, iEnum_s, enumD_s, iSeq_s, seqD_l, seqD_t, iOwn_s, iKeysD_s, keysD_s, eGet_s, getO_s, sMut_s, mutO_s, sPut_s, putO_s, addD_s, subD_s, ltD_s, leD_s, gtD_s, geD_s, eqD_ii, neD_ii, intD_s, lenD_l, lenD_t, lenD_s, negD_s, isND_n, isND_i, notND_n, notND_i, bind_o, outD_rt, absD_s, gN_s, gT_s, gsC_s, gsN_s, notD_s, ixE_t0, ixE_t1, ixE_t2, ixE_l0, ixE_l1, ixE_l2, ixE_l3, ixE_l4, List.set_cons_zero, List.set_cons_succ, List.nil_append, List.cons_append, List.append_nil, wipeS]
    have hnd : (ks.filterMap id).Nodup := nodup_fm g1
    have hset : setL (ks.filterMap id) = ikeys rows := by
      unfold ikeys
      refine lt_uniq (setL_lt _) (setL_lt _) fun k => ?_
      rw [mem_setL, mem_setL, List.mem_filterMap, List.mem_filterMap]
      constructor
      · rintro ⟨a, ha, rfl⟩
        obtain ⟨r, hr, e⟩ := List.mem_map.mp ((g2 _).mp ha)
        exact ⟨r, hr, e⟩
      · rintro ⟨r, hr, e⟩
        exact ⟨some k, (g2 _).mpr (List.mem_map.mpr ⟨r, hr, e⟩), rfl⟩
    have hs1 := sortD_ints hnd
    rw [hset] at hs1
    have hlk : (ikeys rows).length ≤ 1000 := Nat.le_trans (ikeys_len rows) hz
    rw [← filter_some] at hs1
    have hn : (none ∈ ks) ↔ 0 < cnt rows none := (g2 none).trans mem_cnt.symm
    have hzz : ((ikeys rows).map D.int).length < 16000000 := by rw [List.length_map]; omega
    have hend : ∀ x2, eLc [2] (iSeq (eN 5)) (gN 2) tY (eTup (aC (eN 2) (aC (e2 ixE (e2 ixE (eN 1) (eN 2)) (eC (.int 0))) (aC (e2 ixE (e2 ixE (eN 1) (eN 2)) (eC (.int 1))) aN)))) [some (tabD rows), some (.dct (sumsD rows ks)), x2, x3, x4, some (.lst ((gKeys rows).map kD))] = .ok (groups rows) := fun x2 => by
      have e := eLc_map (vs := [2]) (fi := iSeq (eN 5)) (t := gN 2) (tt := tY) (fe := (eTup (aC (eN 2) (aC (e2 ixE (e2 ixE (eN 1) (eN 2)) (eC (.int 0))) (aC (e2 ixE (e2 ixE (eN 1) (eN 2)) (eC (.int 1))) aN))))) (s := [some (tabD rows), some (.dct (sumsD rows ks)), x2, x3, x4, some (.lst ((gKeys rows).map kD))]) kD (fun _ => true) (gD rows) (gKeys rows) (by simp only [dDef_s, sSeq_s, sIf_s, sSet_s, sRet_s, sFor_s, sNx_s, thenO_nx, thenO_rt, condO_t, condO_f, setO_ok, retO_ok, forO_ok, eN_s, getS_0, getS_s, eC_s, e1_s, e2_s, aN_s, aC_s, eTup_s, eLst_s, tupO_0, tupO_1, tupO_2, tupO_3, tupO_4, lstO_0, lstO_1, lstO_2, lstO_3, lstO_4, eCall_s, eMake_s, eMeth_s, tVal_s, bvO_s, tAndD_s, tOrD_s, andO_t, andO_f, orO_t, orO_f, tNotD_s, tSt_s, strict_ok, eAnd_s, eandO_t, eandO_f, eOr_s, eorO_t, eorO_f, eIf_s, eifO_t, eifO_f, iRng1_s, iRng2_s, iEnum_s, enumD_s, iSeq_s, seqD_l, seqD_t, iOwn_s, iKeysD_s, keysD_s, eGet_s, getO_s, sMut_s, mutO_s, sPut_s, putO_s, addD_s, subD_s, ltD_s, leD_s, gtD_s, geD_s, eqD_ii, neD_ii, intD_s, lenD_l, lenD_t, lenD_s, negD_s, isND_n, isND_i, notND_n, notND_i, bind_o, outD_rt, absD_s, gN_s, gT_s, gsC_s, gsN_s, notD_s, ixE_t0, ixE_t1, ixE_t2, ixE_l0, ixE_l1, ixE_l2, ixE_l3, ixE_l4, List.set_cons_zero, List.set_cons_succ, List.nil_append, List.cons_append, List.append_nil]) (by
        unfold gKeys
        rw [List.length_append, List.length_map]
        split <;> simp <;> omega) fun k hk => ⟨_, rfl, rfl, fun _ => ?_⟩
      · rw [e, List.filter_eq_self.mpr fun _ _ => rfl]; rfl
      · have hkk : k ∈ ks := by
          unfold gKeys at hk
          rcases List.mem_append.mp hk with h | h
          · obtain ⟨i, hi, rfl⟩ := List.mem_map.mp h
            exact (g2 _).mpr (mem_ikeys.mp hi)
          · split at h
            · simp at h; subst h; exact hn.mpr (by assumption)
            · cases h
        simp only [dDef_s, sSeq_s, sIf_s, sSet_s, sRet_s, sFor_s, sNx_s, thenO_nx, thenO_rt, condO_t, condO_f, setO_ok, retO_ok, forO_ok, eN_s, getS_0, getS_s, eC_s, e1_s, e2_s, aN_s, aC_s, eTup_s, eLst_s, tupO_0, tupO_1, tupO_2, tupO_3, tupO_4, lstO_0, lstO_1, lstO_2, lstO_3, lstO_4, eCall_s, eMake_s, eMeth_s, tVal_s, bvO_s, tAndD_s, tOrD_s, andO_t, andO_f, orO_t, orO_f, tNotD_s, tSt_s, strict_ok, eAnd_s, eandO_t, eandO_f, eOr_s, eorO_t, eorO_f, eIf_s, eifO_t, eifO_f, iRng1_s, iRng2_s, iEnum_s, enumD_s, iSeq_s, seqD_l, seqD_t, iOwn_s, iKeysD_s, keysD_s, eGet_s, getO_s, sMut_s, mutO_s, sPut_s, putO_s, addD_s, subD_s, ltD_s, leD_s, gtD_s, geD_s, eqD_ii, neD_ii, intD_s, lenD_l, lenD_t, lenD_s, negD_s, isND_n, isND_i, notND_n, notND_i, bind_o, outD_rt, absD_s, gN_s, gT_s, gsC_s, gsN_s, notD_s, ixE_t0, ixE_t1, ixE_t2, ixE_l0, ixE_l1, ixE_l2, ixE_l3, ixE_l4, List.set_cons_zero, List.set_cons_succ, List.nil_append, List.cons_append, List.append_nil, wipeS, ixE_sums hkk]
        rfl
    have hgk : gKeys rows = (ikeys rows).map some ++ if 0 < cnt rows none then [none] else [] := rfl
    have hmm : ((ikeys rows).map some).map kD = (ikeys rows).map D.int := by rw [List.map_map]; rfl
    by_cases hz0 : none ∈ ks
    · have hc := hn.mp hz0
      have e5 : (gKeys rows).map kD = (ikeys rows).map D.int ++ [.non] := by rw [hgk, if_pos hc, List.map_append, hmm]; rfl
      rw [e5] at hend
      simp only [dDef_s, sSeq_s, sIf_s, sSet_s, sRet_s, sFor_s, sNx_s, thenO_nx, thenO_rt, condO_t, condO_f, setO_ok, retO_ok, forO_ok, eN_s, getS_0, getS_s, eC_s, e1_s, e2_s, aN_s, aC_s, eTup_s, eLst_s, tupO_0, tupO_1, tupO_2, tupO_3, tupO_4, lstO_0, lstO_1, lstO_2, lstO_3, lstO_4, eCall_s, eMake_s, eMeth_s, tVal_s, bvO_s, tAndD_s, tOrD_s, andO_t, andO_f, orO_t, orO_f, tNotD_s, tSt_s, strict_ok, eAnd_s, eandO_t, eandO_f, eOr_s, eorO_t, eorO_f, eIf_s, eifO_t, eifO_f, iRng1_s, iRng2_s, iEnum_s, enumD_s, iSeq_s, seqD_l, seqD_t, iOwn_s, iKeysD_s, keysD_s, eGet_s, getO_s, sMut_s, mutO_s, sPut_s, putO_s, addD_s, subD_s, ltD_s, leD_s, gtD_s, geD_s, eqD_ii, neD_ii, intD_s, lenD_l, lenD_t, lenD_s, negD_s, isND_n, isND_i, notND_n, notND_i, bind_o, outD_rt, absD_s, gN_s, gT_s, gsC_s, gsN_s, notD_s, ixE_t0, ixE_t1, ixE_t2, ixE_l0, ixE_l1, ixE_l2, ixE_l3, ixE_l4, List.set_cons_zero, List.set_cons_succ, List.nil_append, List.cons_append, List.append_nil, hc1, hs1, memD_sums, decide_eq_true hz0, mut2_app hzz, hend]
    · have hc : ¬ 0 < cnt rows none := fun z => hz0 (hn.mpr z)
      have e5 : (gKeys rows).map kD = (ikeys rows).map D.int := by rw [hgk, if_neg hc, List.append_nil, hmm]
      rw [e5] at hend
      simp only [dDef_s, sSeq_s, sIf_s, sSet_s, sRet_s, sFor_s, sNx_s, thenO_nx, thenO_rt, condO_t, condO_f, setO_ok, retO_ok, forO_ok, eN_s, getS_0, getS_s, eC_s, e1_s, e2_s, aN_s, aC_s, eTup_s, eLst_s, tupO_0, tupO_1, tupO_2, tupO_3, tupO_4, lstO_0, lstO_1, lstO_2, lstO_3, lstO_4, eCall_s, eMake_s, eMeth_s, tVal_s, bvO_s, tAndD_s, tOrD_s, andO_t, andO_f, orO_t, orO_f, tNotD_s, tSt_s, strict_ok, eAnd_s, eandO_t, eandO_f, eOr_s, eorO_t, eorO_f, eIf_s, eifO_t, eifO_f, iRng1_s, iRng2_s, iEnum_s, enumD_s, iSeq_s, seqD_l, seqD_t, iOwn_s, iKeysD_s, keysD_s, eGet_s, getO_s, sMut_s, mutO_s, sPut_s, putO_s, addD_s, subD_s, ltD_s, leD_s, gtD_s, geD_s, eqD_ii, neD_ii, intD_s, lenD_l, lenD_t, lenD_s, negD_s, isND_n, isND_i, notND_n, notND_i, bind_o, outD_rt, absD_s, gN_s, gT_s, gsC_s, gsN_s, notD_s, ixE_t0, ixE_t1, ixE_t2, ixE_l0, ixE_l1, ixE_l2, ixE_l3, ixE_l4, List.set_cons_zero, List.set_cons_succ, List.nil_append, List.cons_append, List.append_nil, hc1, hs1, memD_sums, decide_eq_false hz0, hend]
/-! tuples told and due -/
def flatE (d : D) : Prop := d = .non ∨ ∃ i, d = .int i
theorem is_tuples_ok (ts : List (List D)) (hz : ts.length ≤ 1000) (h : ∀ t ∈ ts, t.length ≤ 1000 ∧ ∀ d ∈ t, flatE d) : F_law_is_tuples [.lst (ts.map D.tup), .lst (ts.map D.tup)] = .ok (.bl true) := by
  have hr : rng1D [.int (((ts.map D.tup).length : Nat) : Int)] = .ok (nums 0 (ts.map D.tup).length) := rng1D_nat (by rw [List.length_map]; omega)
  have heq : eqD (.lst (ts.map D.tup)) (.lst (ts.map D.tup)) = .ok (.bl true) := eqD_self (shp_of (n := 2) (shpN_lst fun d hd => by
    obtain ⟨t, ht, rfl⟩ := List.mem_map.mp hd
    exact shpN_tup fun d hd => by rcases (h t ht).2 d hd with rfl | ⟨i, rfl⟩ <;> rfl) (by omega))
  unfold F_law_is_tuples
  simp only [dDef_s, sSeq_s, sIf_s, sSet_s, sRet_s, sFor_s, sNx_s, thenO_nx, thenO_rt, condO_t, condO_f, setO_ok, retO_ok, forO_ok, eN_s, getS_0, getS_s, eC_s, e1_s, e2_s, aN_s, aC_s, eTup_s, eLst_s, tupO_0, tupO_1, tupO_2, tupO_3, tupO_4, lstO_0, lstO_1, lstO_2, lstO_3, lstO_4, eCall_s, eMake_s, eMeth_s, tVal_s, bvO_s, tAndD_s, tOrD_s, andO_t, andO_f, orO_t, orO_f, tNotD_s, tSt_s, strict_ok, eAnd_s, eandO_t, eandO_f, eOr_s, eorO_t, eorO_f, eIf_s, eifO_t, eifO_f, iRng1_s, iRng2_s, iEnum_s, enumD_s, iSeq_s, seqD_l, seqD_t, iOwn_s, iKeysD_s, keysD_s, eGet_s, getO_s, sMut_s, mutO_s, sPut_s, putO_s, addD_s, subD_s, ltD_s, leD_s, gtD_s, geD_s, eqD_ii, neD_ii, intD_s, lenD_l, lenD_t, lenD_s, negD_s, isND_n, isND_i, notND_n, notND_i, bind_o, outD_rt, absD_s, gN_s, gT_s, gsC_s, gsN_s, notD_s, ixE_t0, ixE_t1, ixE_t2, ixE_l0, ixE_l1, ixE_l2, ixE_l3, ixE_l4, List.set_cons_zero, List.set_cons_succ, List.nil_append, List.cons_append, List.append_nil, startD, List.map_cons, List.map_nil, List.length_cons, List.length_nil, Nat.reduceAdd, Nat.reduceSub, List.reduceReplicate, isi_ll, decide_true, Bool.not_true, Bool.not_false, hr]
  refine Exists.elim (fLoop_nx (g := gN 2) (b := L_law_is_tuples_2) (fun i s => ∃ (x2 x3 x4 : Option D), s = [some (.lst (ts.map D.tup)), some (.lst (ts.map D.tup)), x2, x3, x4]) (nums 0 (ts.map D.tup).length) 0 [some (.lst (ts.map D.tup)), some (.lst (ts.map D.tup)), none, none, none]
    ⟨none, none, none, rfl⟩ (fun i d s hd hs' => ?_)) (fun s' ⟨h1, h2⟩ => ?_)
  · obtain ⟨x2, x3, x4, rfl⟩ := hs'
    obtain ⟨hi, rfl⟩ := nums_get hd
    rw [List.length_map] at hi
    have hk0 : (0 : Int) + (i : Int) = (i : Int) := by omega
    rw [hk0]
    obtain ⟨t, ht⟩ : ∃ t, ts[i]? = some t := ⟨ts[i], List.getElem?_eq_getElem hi⟩
    have htm : t ∈ ts := List.mem_of_getElem? ht
    have hix : ixE (.lst (ts.map D.tup)) (.int (i : Int)) = .ok (.tup t) := ixE_l (by omega) (by rw [Int.toNat_natCast, List.getElem?_map, ht]; rfl)
    have hr2 : rng1D [.int ((t.length : Nat) : Int)] = .ok (nums 0 t.length) := rng1D_nat (by have := (h t htm).1; omega)
    refine ⟨_, rfl, ?_⟩
    unfold L_law_is_tuples_2
    simp only [dDef_s, sSeq_s, sIf_s, sSet_s, sRet_s, sFor_s, sNx_s, thenO_nx, thenO_rt, condO_t, condO_f, setO_ok, retO_ok, forO_ok, eN_s, getS_0, getS_s, eC_s, e1_s, e2_s, aN_s, aC_s, eTup_s, eLst_s, tupO_0, tupO_1, tupO_2, tupO_3, tupO_4, lstO_0, lstO_1, lstO_2, lstO_3, lstO_4, eCall_s, eMake_s, eMeth_s, tVal_s, bvO_s, tAndD_s, tOrD_s, andO_t, andO_f, orO_t, orO_f, tNotD_s, tSt_s, strict_ok, eAnd_s, eandO_t, eandO_f, eOr_s, eorO_t, eorO_f, eIf_s, eifO_t, eifO_f, iRng1_s, iRng2_s, iEnum_s, enumD_s, iSeq_s, seqD_l, seqD_t, iOwn_s, iKeysD_s, keysD_s, eGet_s, getO_s, sMut_s, mutO_s, sPut_s, putO_s, addD_s, subD_s, ltD_s, leD_s, gtD_s, geD_s, eqD_ii, neD_ii, intD_s, lenD_l, lenD_t, lenD_s, negD_s, isND_n, isND_i, notND_n, notND_i, bind_o, outD_rt, absD_s, gN_s, gT_s, gsC_s, gsN_s, notD_s, ixE_t0, ixE_t1, ixE_t2, ixE_l0, ixE_l1, ixE_l2, ixE_l3, ixE_l4, List.set_cons_zero, List.set_cons_succ, List.nil_append, List.cons_append, List.append_nil, hix, isi_tt, decide_true, Bool.not_true, Bool.not_false, hr2]
    refine Exists.elim (fLoop_nx (g := gN 3) (b := L_law_is_tuples_1) (fun j s => ∃ (x3 x4 : Option D), s = [some (.lst (ts.map D.tup)), some (.lst (ts.map D.tup)), some (.int (i : Int)), x3, x4]) (nums 0 t.length) 0 [some (.lst (ts.map D.tup)), some (.lst (ts.map D.tup)), some (.int (i : Int)), x3, x4]
      ⟨x3, x4, rfl⟩ (fun j d s hd hs' => ?_)) (fun s' ⟨h1, h2⟩ => ?_)
    · obtain ⟨x3, x4, rfl⟩ := hs'
      obtain ⟨hj, rfl⟩ := nums_get hd
      have hj0 : (0 : Int) + (j : Int) = (j : Int) := by omega
      rw [hj0]
      obtain ⟨d, hdj⟩ : ∃ d, t[j]? = some d := ⟨t[j], List.getElem?_eq_getElem hj⟩
      have hix2 : ixE (.tup t) (.int (j : Int)) = .ok d := ixE_t (by omega) (by rw [Int.toNat_natCast]; exact hdj)
      refine ⟨_, rfl, [some (.lst (ts.map D.tup)), some (.lst (ts.map D.tup)), some (.int (i : Int)), some (.int (j : Int)), some d], .inl ?_, _, _, rfl⟩
      unfold L_law_is_tuples_1
      rcases (h t htm).2 d (List.mem_of_getElem? hdj) with rfl | ⟨m, rfl⟩
      · simp only [dDef_s, sSeq_s, sIf_s, sSet_s, sRet_s, sFor_s, sNx_s, thenO_nx, thenO_rt, condO_t, condO_f, setO_ok, retO_ok, forO_ok, eN_s, getS_0, getS_s, eC_s, e1_s, e2_s, aN_s, aC_s, eTup_s, eLst_s, tupO_0, tupO_1, tupO_2, tupO_3, tupO_4, lstO_0, lstO_1, lstO_2, lstO_3, lstO_4, eCall_s, eMake_s, eMeth_s, tVal_s, bvO_s, tAndD_s, tOrD_s, andO_t, andO_f, orO_t, orO_f, tNotD_s, tSt_s, strict_ok, eAnd_s, eandO_t, eandO_f, eOr_s, eorO_t, eorO_f, eIf_s, eifO_t, eifO_f, iRng1_s, iRng2_s, iEnum_s, enumD_s, iSeq_s, seqD_l, seqD_t, iOwn_s, iKeysD_s, keysD_s, eGet_s, getO_s, sMut_s, mutO_s, sPut_s, putO_s, addD_s, subD_s, ltD_s, leD_s, gtD_s, geD_s, eqD_ii, neD_ii, intD_s, lenD_l, lenD_t, lenD_s, negD_s, isND_n, isND_i, notND_n, notND_i, bind_o, outD_rt, absD_s, gN_s, gT_s, gsC_s, gsN_s, notD_s, ixE_t0, ixE_t1, ixE_t2, ixE_l0, ixE_l1, ixE_l2, ixE_l3, ixE_l4, List.set_cons_zero, List.set_cons_succ, List.nil_append, List.cons_append, List.append_nil, hix, hix2]
      · simp only [dDef_s, sSeq_s, sIf_s, sSet_s, sRet_s, sFor_s, sNx_s, thenO_nx, thenO_rt, condO_t, condO_f, setO_ok, retO_ok, forO_ok, eN_s, getS_0, getS_s, eC_s, e1_s, e2_s, aN_s, aC_s, eTup_s, eLst_s, tupO_0, tupO_1, tupO_2, tupO_3, tupO_4, lstO_0, lstO_1, lstO_2, lstO_3, lstO_4, eCall_s, eMake_s, eMeth_s, tVal_s, bvO_s, tAndD_s, tOrD_s, andO_t, andO_f, orO_t, orO_f, tNotD_s, tSt_s, strict_ok, eAnd_s, eandO_t, eandO_f, eOr_s, eorO_t, eorO_f, eIf_s, eifO_t, eifO_f, iRng1_s, iRng2_s, iEnum_s, enumD_s, iSeq_s, seqD_l, seqD_t, iOwn_s, iKeysD_s, keysD_s, eGet_s, getO_s, sMut_s, mutO_s, sPut_s, putO_s, addD_s, subD_s, ltD_s, leD_s, gtD_s, geD_s, eqD_ii, neD_ii, intD_s, lenD_l, lenD_t, lenD_s, negD_s, isND_n, isND_i, notND_n, notND_i, bind_o, outD_rt, absD_s, gN_s, gT_s, gsC_s, gsN_s, notD_s, ixE_t0, ixE_t1, ixE_t2, ixE_l0, ixE_l1, ixE_l2, ixE_l3, ixE_l4, List.set_cons_zero, List.set_cons_succ, List.nil_append, List.cons_append, List.append_nil, hix, hix2, isi_ii, isi_bi, Bool.not_true]
    · obtain ⟨y3, y4, rfl⟩ := h2
      exact ⟨_, .inl h1, _, _, _, rfl⟩
  · rw [h1]
    obtain ⟨x2, x3, x4, rfl⟩ := h2
    simp only [dDef_s, sSeq_s, sIf_s, sSet_s, sRet_s, sFor_s, sNx_s, thenO_nx, thenO_rt, condO_t, condO_f, setO_ok, retO_ok, forO_ok, eN_s, getS_0, getS_s, eC_s, e1_s, e2_s, aN_s, aC_s, eTup_s, eLst_s, tupO_0, tupO_1, tupO_2, tupO_3, tupO_4, lstO_0, lstO_1, lstO_2, lstO_3, lstO_4, eCall_s, eMake_s, eMeth_s, tVal_s, bvO_s, tAndD_s, tOrD_s, andO_t, andO_f, orO_t, orO_f, tNotD_s, tSt_s, strict_ok, eAnd_s, eandO_t, eandO_f, eOr_s, eorO_t, eorO_f, eIf_s, eifO_t, eifO_f, iRng1_s, iRng2_s, iEnum_s, enumD_s, iSeq_s, seqD_l, seqD_t, iOwn_s, iKeysD_s, keysD_s, eGet_s, getO_s, sMut_s, mutO_s, sPut_s, putO_s, addD_s, subD_s, ltD_s, leD_s, gtD_s, geD_s, eqD_ii, neD_ii, intD_s, lenD_l, lenD_t, lenD_s, negD_s, isND_n, isND_i, notND_n, notND_i, bind_o, outD_rt, absD_s, gN_s, gT_s, gsC_s, gsN_s, notD_s, ixE_t0, ixE_t1, ixE_t2, ixE_l0, ixE_l1, ixE_l2, ixE_l3, ixE_l4, List.set_cons_zero, List.set_cons_succ, List.nil_append, List.cons_append, List.append_nil, heq]
/-! entries -/
def pD (p : Int × Int) : D := .tup [.int p.1, .int p.2]
theorem entries_ok (rows : List Row) (hz : rows.length ≤ 1000) : ∃ ps : List (Int × Int), (∀ k, k ∈ ps.map (·.1) ↔ k ∈ rows.filterMap (·.1)) ∧ ps.length ≤ rows.length ∧ F_Table_entries [tabD rows] = .ok (.lst (ps.map pD)) := by
  have hf : eFld "Table" "_rows" (tabD rows) = .ok (.lst (rows.map rD)) := by simp [eFld, tabD]
  unfold F_Table_entries
  simp only [dDef_s, sSeq_s, sIf_s, sSet_s, sRet_s, sFor_s, sNx_s, thenO_nx, thenO_rt, condO_t, condO_f, setO_ok, retO_ok, forO_ok, eN_s, getS_0, getS_s, eC_s, e1_s, e2_s, aN_s, aC_s, eTup_s, eLst_s, tupO_0, tupO_1, tupO_2, tupO_3, tupO_4, lstO_0, lstO_1, lstO_2, lstO_3, lstO_4, eCall_s, eMake_s, eMeth_s, tVal_s, bvO_s, tAndD_s, tOrD_s, andO_t, andO_f, orO_t, orO_f, tNotD_s, tSt_s, strict_ok, eAnd_s, eandO_t, eandO_f, eOr_s, eorO_t, eorO_f, eIf_s, eifO_t, eifO_f, iRng1_s, iRng2_s, iEnum_s, enumD_s, iSeq_s, seqD_l, seqD_t, iOwn_s, iKeysD_s, keysD_s, eGet_s, getO_s, sMut_s, mutO_s, sPut_s, putO_s, addD_s, subD_s, ltD_s, leD_s, gtD_s, geD_s, eqD_ii, neD_ii, intD_s, lenD_l, lenD_t, lenD_s, negD_s, isND_n, isND_i, notND_n, notND_i, bind_o, outD_rt, absD_s, gN_s, gT_s, gsC_s, gsN_s, notD_s, ixE_t0, ixE_t1, ixE_t2, ixE_l0, ixE_l1, ixE_l2, ixE_l3, ixE_l4, List.set_cons_zero, List.set_cons_succ, List.nil_append, List.cons_append, List.append_nil, startD, List.map_cons, List.map_nil, List.length_cons, List.length_nil, Nat.reduceAdd, Nat.reduceSub, List.reduceReplicate, hf]
  refine Exists.elim (fLoop_nx (g := gT (gsC (gN 2) (gsC (gN 3) gsN))) (b := L_Table_entries_1) (fun i s => ∃ (ps : List (Int × Int)) (x2 x3 : Option D), ps.map (·.1) = (rows.take i).filterMap (·.1) ∧ s = [some (tabD rows), some (.lst (ps.map pD)), x2, x3]) (enumL 0 (rows.map rD)) 0 [some (tabD rows), some (.lst []), none, none]
    ⟨[], none, none, by simp, rfl⟩ (fun i d s hd hs' => ?_)) (fun s' ⟨h1, h2⟩ => ?_)
  · obtain ⟨ps, x2, x3, g1, rfl⟩ := hs'
    obtain ⟨d', hd', rfl⟩ := enumL_get hd
    rw [List.getElem?_map] at hd'
    cases hr : rows[i]? with
    | none => rw [hr] at hd'; cases hd'
    | some r =>
      rw [hr] at hd'
      cases hd'
      have ht : rows.take (0 + i + 1) = rows.take (0 + i) ++ [r] := by rw [Nat.zero_add, List.take_add_one, hr]; rfl
      have hl : ps.length ≤ rows.length := by
        have e := congrArg List.length g1
        rw [List.length_map] at e
        have := List.length_filterMap_le (·.1) (rows.take (0 + i))
        rw [List.length_take] at this
        omega
      have hlen : (ps.map pD).length < 16000000 := by rw [List.length_map]; omega
      have hk0 : (0 : Int) + (i : Int) = (i : Int) := by omega
      rw [hk0]
      obtain ⟨k, v⟩ := r
      have e0 : ixE (rD (k, v)) (.int 0) = .ok (kD k) := ixE_t0
      refine ⟨_, rfl, ?_⟩
      unfold L_Table_entries_1
      cases k with
      | none =>
        refine ⟨[some (tabD rows), some (.lst (ps.map pD)), some (.int (i : Int)), some (rD (none, v))], .inl ?_, ps, _, _, ?_, rfl⟩
        · simp only [dDef_s, sSeq_s, sIf_s, sSet_s, sRet_s, sFor_s, sNx_s, thenO_nx, thenO_rt, condO_t, condO_f, setO_ok, retO_ok, forO_ok, eN_s, getS_0, getS_s, eC_s, e1_s, e2_s, aN_s, aC_s, eTup_s, eLst_s, tupO_0, tupO_1, tupO_2, tupO_3, tupO_4, lstO_0, lstO_1, lstO_2, lstO_3, lstO_4, eCall_s, eMake_s, eMeth_s, tVal_s, bvO_s, tAndD_s, tOrD_s, andO_t, andO_f, orO_t, orO_f, tNotD_s, tSt_s, strict_ok, eAnd_s, eandO_t, eandO_f, eOr_s, eorO_t, eorO_f, eIf_s, eifO_t, eifO_f, iRng1_s, iRng2_s, iEnum_s, enumD_s, iSeq_s, seqD_l, seqD_t, iOwn_s, iKeysD_s, keysD_s, eGet_s, getO_s, sMut_s, mutO_s, sPut_s, putO_s, addD_s, subD_s, ltD_s, leD_s, gtD_s, geD_s, eqD_ii, neD_ii, intD_s, lenD_l, lenD_t, lenD_s, negD_s, isND_n, isND_i, notND_n, notND_i, bind_o, outD_rt, absD_s, gN_s, gT_s, gsC_s, gsN_s, notD_s, ixE_t0, ixE_t1, ixE_t2, ixE_l0, ixE_l1, ixE_l2, ixE_l3, ixE_l4, List.set_cons_zero, List.set_cons_succ, List.nil_append, List.cons_append, List.append_nil, e0, kD]
        · rw [ht, List.filterMap_append, g1]; simp
      | some k =>
        refine ⟨[some (tabD rows), some (.lst ((ps ++ [(k, (i : Int))]).map pD)), some (.int (i : Int)), some (rD (some k, v))], .inl ?_, ps ++ [(k, (i : Int))], _, _, ?_, rfl⟩
        · simp only [dDef_s, sSeq_s, sIf_s, sSet_s, sRet_s, sFor_s, sNx_s, thenO_nx, thenO_rt, condO_t, condO_f, setO_ok, retO_ok, forO_ok, eN_s, getS_0, getS_s, eC_s, e1_s, e2_s, aN_s, aC_s, eTup_s, eLst_s, tupO_0, tupO_1, tupO_2, tupO_3, tupO_4, lstO_0, lstO_1, lstO_2, lstO_3, lstO_4, eCall_s, eMake_s, eMeth_s, tVal_s, bvO_s, tAndD_s, tOrD_s, andO_t, andO_f, orO_t, orO_f, tNotD_s, tSt_s, strict_ok, eAnd_s, eandO_t, eandO_f, eOr_s, eorO_t, eorO_f, eIf_s, eifO_t, eifO_f, iRng1_s, iRng2_s, iEnum_s, enumD_s, iSeq_s, seqD_l, seqD_t, iOwn_s, iKeysD_s, keysD_s, eGet_s, getO_s, sMut_s, mutO_s, sPut_s, putO_s, addD_s, subD_s, ltD_s, leD_s, gtD_s, geD_s, eqD_ii, neD_ii, intD_s, lenD_l, lenD_t, lenD_s, negD_s, isND_n, isND_i, notND_n, notND_i, bind_o, outD_rt, absD_s, gN_s, gT_s, gsC_s, gsN_s, notD_s, ixE_t0, ixE_t1, ixE_t2, ixE_l0, ixE_l1, ixE_l2, ixE_l3, ixE_l4, List.set_cons_zero, List.set_cons_succ, List.nil_append, List.cons_append, List.append_nil, e0, kD, mut2_app hlen, List.map_append, List.map_cons, List.map_nil, pD]
        · rw [ht, List.filterMap_append, List.map_append, g1]; simp
  · rw [h1]
    obtain ⟨ps, x2, x3, g1, rfl⟩ := h2
    have ht : rows.take (0 + (enumL 0 (rows.map rD)).length) = rows := by rw [enumL_len, List.length_map, Nat.zero_add, List.take_length]
    rw [ht] at g1
    obtain ⟨ys, hp, hs⟩ := sortD_pairs (fun p : Int × Int => p.1) (fun p => p.2) ps
    have hs : sortD (.lst (ps.map pD)) = .ok (.lst (ys.map pD)) := hs
    refine ⟨ys, fun k => ?_, ?_, by simp only [dDef_s, sSeq_s, sIf_s, sSet_s, sRet_s, sFor_s, sNx_s, thenO_nx, thenO_rt, condO_t, condO_f, setO_ok, retO_ok, forO_ok, eN_s, getS_0, getS_s, eC_s, e1_s, e2_s, aN_s, aC_s, eTup_s, eLst_s, tupO_0, tupO_1, tupO_2, tupO_3, tupO_4, lstO_0, lstO_1, lstO_2, lstO_3, lstO_4, eCall_s, eMake_s, eMeth_s, tVal_s, bvO_s, tAndD_s, tOrD_s, andO_t, andO_f, orO_t, orO_f, tNotD_s, tSt_s, strict_ok, eAnd_s, eandO_t, eandO_f, eOr_s, eorO_t, eorO_f, eIf_s, eifO_t, eifO_f, iRng1_s, iRng2_s, iEnum_s, enumD_s, iSeq_s, seqD_l, seqD_t, iOwn_s, iKeysD_s, keysD_s, eGet_s, getO_s, sMut_s, mutO_s, sPut_s, putO_s, addD_s, subD_s, ltD_s, leD_s, gtD_s, geD_s, eqD_ii, neD_ii, intD_s, lenD_l, lenD_t, lenD_s, negD_s, isND_n, isND_i, notND_n, notND_i, bind_o, outD_rt, absD_s, gN_s, gT_s, gsC_s, gsN_s, notD_s, ixE_t0, ixE_t1, ixE_t2, ixE_l0, ixE_l1, ixE_l2, ixE_l3, ixE_l4, List.set_cons_zero, List.set_cons_succ, List.nil_append, List.cons_append, List.append_nil, hs]⟩
    · rw [← g1, (hp.map (·.1)).mem_iff]
    · rw [hp.length_eq]
      have e := congrArg List.length g1
      rw [List.length_map] at e
      rw [e]
      exact List.length_filterMap_le _ _
theorem eSortSet_map {β : Type} {vs : List Nat} {fi : Sl → R (List D)} {t : D → Sl → R Sl} {tt : Sl → R Bool} {fe : Sl → R D} {s : Sl} (f : β → D) (p : β → Bool) (h : β → Int) (xs : List β) (hi : fi s = .ok (xs.map f)) (hz : xs.length < 64)
    (q : ∀ x ∈ xs, ∃ s1, t (f x) (wipeS s vs) = .ok s1 ∧ tt s1 = .ok (p x) ∧ (p x = true → fe s1 = .ok (.int (h x)))) : eSortSet vs fi t tt fe s = .ok (.lst ((setL ((xs.filter p).map h)).map D.int)) := by
  unfold eSortSet
  rw [hi]
  show ((if (xs.map f).length < 64 then strict (lcLoop t tt fe (wipeS s vs) (xs.map f)) else .bad).bind setOfD) = _
  rw [if_pos (by rw [List.length_map]; exact hz), lcLoop_map (γ := Unit) f p (fun x => D.int (h x)) xs q]
  show setOfD _ = _
  unfold setOfD
  have e : ∀ l : List Int, intsOf (l.map D.int) = some l := fun l => by
    induction l with
    | nil => rfl
    | cons i l ih => rw [List.map_cons]; simp only [intsOf]; rw [ih]; rfl
  have e2 : (xs.filter p).map (fun x => D.int (h x)) = ((xs.filter p).map h).map D.int := by rw [List.map_map]; rfl
  rw [e2, e]
def bndT (ks : List Int) (room : Int) : List (List D) := (List.range ks.length).map fun (i : Nat) => [.int (ks.getD i 0), .int ((i : Int) / room)]
theorem enumL_range (ks : List Int) : enumL 0 (ks.map D.int) = (List.range ks.length).map fun (i : Nat) => D.tup [.int (i : Int), .int (ks.getD i 0)] := by
  apply List.ext_getElem?
  intro i
  rw [List.getElem?_map]
  by_cases hi : i < ks.length
  · rw [List.getElem?_range hi]
    have hl : i < (enumL 0 (ks.map D.int)).length := by rw [enumL_len, List.length_map]; exact hi
    have q := List.getElem?_eq_getElem hl
    obtain ⟨d, hd, e⟩ := enumL_get q
    rw [List.getElem?_map, List.getElem?_eq_getElem hi] at hd
    cases hd
    rw [q, e]
    simp [List.getD_eq_getElem?_getD, hi]
  · rw [List.getElem?_eq_none (by rw [enumL_len, List.length_map]; omega), List.getElem?_eq_none (by rw [List.length_range]; omega)]
    rfl
theorem bounds_ok (rows : List Row) (room : Int) (hz : rows.length < 64) (hr : 1 ≤ room ∧ room ≤ 9) : F_group_depth_bounds [tabD rows, .int room] = .ok (.lst ((bndT (ikeys rows) room).map D.tup)) := by
  obtain ⟨ps, h1, h2, h3⟩ := entries_ok rows (by omega)
  have hm : meO "Table" "entries" F_Table_entries [] aN [some (tabD rows), some (.int room), none, none, none, none] (tabD rows) = .ok (.lst (ps.map pD)) := by
    unfold tabD
    rw [meO_s (by simp [List.lookup])]
    simp only [dDef_s, sSeq_s, sIf_s, sSet_s, sRet_s, sFor_s, sNx_s, thenO_nx, thenO_rt, condO_t, condO_f, setO_ok, retO_ok, forO_ok, eN_s, getS_0, getS_s, eC_s, e1_s, e2_s, aN_s, aC_s, eTup_s, eLst_s, tupO_0, tupO_1, tupO_2, tupO_3, tupO_4, lstO_0, lstO_1, lstO_2, lstO_3, lstO_4, eCall_s, eMake_s, eMeth_s, tVal_s, bvO_s, tAndD_s, tOrD_s, andO_t, andO_f, orO_t, orO_f, tNotD_s, tSt_s, strict_ok, eAnd_s, eandO_t, eandO_f, eOr_s, eorO_t, eorO_f, eIf_s, eifO_t, eifO_f, iRng1_s, iRng2_s, iEnum_s, enumD_s, iSeq_s, seqD_l, seqD_t, iOwn_s, iKeysD_s, keysD_s, eGet_s, getO_s, sMut_s, mutO_s, sPut_s, putO_s, addD_s, subD_s, ltD_s, leD_s, gtD_s, geD_s, eqD_ii, neD_ii, intD_s, lenD_l, lenD_t, lenD_s, negD_s, isND_n, isND_i, notND_n, notND_i, bind_o, outD_rt, absD_s, gN_s, gT_s, gsC_s, gsN_s, notD_s, ixE_t0, ixE_t1, ixE_t2, ixE_l0, ixE_l1, ixE_l2, ixE_l3, ixE_l4, List.set_cons_zero, List.set_cons_succ, List.nil_append, List.cons_append, List.append_nil]
    exact h3
  have hs : eSortSet [3, 4] (iSeq (eMeth "Table" "entries" F_Table_entries [] (eN 0) aN)) (gT (gsC (gN 3) (gsC (gN 4) gsN))) tY (eN 3) [some (tabD rows), some (.int room), none, none, none, none] = .ok (.lst ((ikeys rows).map D.int)) := by
    rw [eSortSet_map pD (fun _ => true) (fun p => p.1) ps (by simp only [dDef_s, sSeq_s, sIf_s, sSet_s, sRet_s, sFor_s, sNx_s, thenO_nx, thenO_rt, condO_t, condO_f, setO_ok, retO_ok, forO_ok, eN_s, getS_0, getS_s, eC_s, e1_s, e2_s, aN_s, aC_s, eTup_s, eLst_s, tupO_0, tupO_1, tupO_2, tupO_3, tupO_4, lstO_0, lstO_1, lstO_2, lstO_3, lstO_4, eCall_s, eMake_s, eMeth_s, tVal_s, bvO_s, tAndD_s, tOrD_s, andO_t, andO_f, orO_t, orO_f, tNotD_s, tSt_s, strict_ok, eAnd_s, eandO_t, eandO_f, eOr_s, eorO_t, eorO_f, eIf_s, eifO_t, eifO_f, iRng1_s, iRng2_s, iEnum_s, enumD_s, iSeq_s, seqD_l, seqD_t, iOwn_s, iKeysD_s, keysD_s, eGet_s, getO_s, sMut_s, mutO_s, sPut_s, putO_s, addD_s, subD_s, ltD_s, leD_s, gtD_s, geD_s, eqD_ii, neD_ii, intD_s, lenD_l, lenD_t, lenD_s, negD_s, isND_n, isND_i, notND_n, notND_i, bind_o, outD_rt, absD_s, gN_s, gT_s, gsC_s, gsN_s, notD_s, ixE_t0, ixE_t1, ixE_t2, ixE_l0, ixE_l1, ixE_l2, ixE_l3, ixE_l4, List.set_cons_zero, List.set_cons_succ, List.nil_append, List.cons_append, List.append_nil, hm]) (by omega) fun p hp => ⟨_, rfl, rfl, fun _ => by simp only [dDef_s, sSeq_s, sIf_s, sSet_s, sRet_s, sFor_s, sNx_s, thenO_nx, thenO_rt, condO_t, condO_f, setO_ok, retO_ok, forO_ok, eN_s, getS_0, getS_s, eC_s, e1_s, e2_s, aN_s, aC_s, eTup_s, eLst_s, tupO_0, tupO_1, tupO_2, tupO_3, tupO_4, lstO_0, lstO_1, lstO_2, lstO_3, lstO_4, eCall_s, eMake_s, eMeth_s, tVal_s, bvO_s, tAndD_s, tOrD_s, andO_t, andO_f, orO_t, orO_f, tNotD_s, tSt_s, strict_ok, eAnd_s, eandO_t, eandO_f, eOr_s, eorO_t, eorO_f, eIf_s, eifO_t, eifO_f, iRng1_s, iRng2_s, iEnum_s, enumD_s, iSeq_s, seqD_l, seqD_t, iOwn_s, iKeysD_s, keysD_s, eGet_s, getO_s, sMut_s, mutO_s, sPut_s, putO_s, addD_s, subD_s, ltD_s, leD_s, gtD_s, geD_s, eqD_ii, neD_ii, intD_s, lenD_l, lenD_t, lenD_s, negD_s, isND_n, isND_i, notND_n, notND_i, bind_o, outD_rt, absD_s, gN_s, gT_s, gsC_s, gsN_s, notD_s, ixE_t0, ixE_t1, ixE_t2, ixE_l0, ixE_l1, ixE_l2, ixE_l3, ixE_l4, List.set_cons_zero, List.set_cons_succ, List.nil_append, List.cons_append, List.append_nil, wipeS]⟩]
    congr 3
    unfold ikeys
    refine lt_uniq (setL_lt _) (setL_lt _) fun k => ?_
    rw [mem_setL, mem_setL, List.filter_eq_self.mpr fun _ _ => rfl]
    exact h1 k
  have hl : (ikeys rows).length ≤ 1000 := Nat.le_trans (ikeys_len rows) (by omega)
  unfold F_group_depth_bounds
  simp only [dDef_s, sSeq_s, sIf_s, sSet_s, sRet_s, sFor_s, sNx_s, thenO_nx, thenO_rt, condO_t, condO_f, setO_ok, retO_ok, forO_ok, eN_s, getS_0, getS_s, eC_s, e1_s, e2_s, aN_s, aC_s, eTup_s, eLst_s, tupO_0, tupO_1, tupO_2, tupO_3, tupO_4, lstO_0, lstO_1, lstO_2, lstO_3, lstO_4, eCall_s, eMake_s, eMeth_s, tVal_s, bvO_s, tAndD_s, tOrD_s, andO_t, andO_f, orO_t, orO_f, tNotD_s, tSt_s, strict_ok, eAnd_s, eandO_t, eandO_f, eOr_s, eorO_t, eorO_f, eIf_s, eifO_t, eifO_f, iRng1_s, iRng2_s, iEnum_s, enumD_s, iSeq_s, seqD_l, seqD_t, iOwn_s, iKeysD_s, keysD_s, eGet_s, getO_s, sMut_s, mutO_s, sPut_s, putO_s, addD_s, subD_s, ltD_s, leD_s, gtD_s, geD_s, eqD_ii, neD_ii, intD_s, lenD_l, lenD_t, lenD_s, negD_s, isND_n, isND_i, notND_n, notND_i, bind_o, outD_rt, absD_s, gN_s, gT_s, gsC_s, gsN_s, notD_s, ixE_t0, ixE_t1, ixE_t2, ixE_l0, ixE_l1, ixE_l2, ixE_l3, ixE_l4, List.set_cons_zero, List.set_cons_succ, List.nil_append, List.cons_append, List.append_nil, startD, List.map_cons, List.map_nil, List.length_cons, List.length_nil, Nat.reduceAdd, Nat.reduceSub, List.reduceReplicate, hs]
  rw [eLc_map (fun (i : Nat) => D.tup [.int (i : Int), .int ((ikeys rows).getD i 0)]) (fun _ => true) (fun (i : Nat) => .tup [.int ((ikeys rows).getD i 0), .int ((i : Int) / room)]) (List.range (ikeys rows).length) (by simp only [dDef_s, sSeq_s, sIf_s, sSet_s, sRet_s, sFor_s, sNx_s, thenO_nx, thenO_rt, condO_t, condO_f, setO_ok, retO_ok, forO_ok, eN_s, getS_0, getS_s, eC_s, e1_s, e2_s, aN_s, aC_s, eTup_s, eLst_s, tupO_0, tupO_1, tupO_2, tupO_3, tupO_4, lstO_0, lstO_1, lstO_2, lstO_3, lstO_4, eCall_s, eMake_s, eMeth_s, tVal_s, bvO_s, tAndD_s, tOrD_s, andO_t, andO_f, orO_t, orO_f, tNotD_s, tSt_s, strict_ok, eAnd_s, eandO_t, eandO_f, eOr_s, eorO_t, eorO_f, eIf_s, eifO_t, eifO_f, iRng1_s, iRng2_s, iEnum_s, enumD_s, iSeq_s, seqD_l, seqD_t, iOwn_s, iKeysD_s, keysD_s, eGet_s, getO_s, sMut_s, mutO_s, sPut_s, putO_s, addD_s, subD_s, ltD_s, leD_s, gtD_s, geD_s, eqD_ii, neD_ii, intD_s, lenD_l, lenD_t, lenD_s, negD_s, isND_n, isND_i, notND_n, notND_i, bind_o, outD_rt, absD_s, gN_s, gT_s, gsC_s, gsN_s, notD_s, ixE_t0, ixE_t1, ixE_t2, ixE_l0, ixE_l1, ixE_l2, ixE_l3, ixE_l4, List.set_cons_zero, List.set_cons_succ, List.nil_append, List.cons_append, List.append_nil, enumL_range]) (by rw [List.length_range]; omega) fun i hi => ⟨_, rfl, rfl, fun _ => by simp (disch := omega) only [dDef_s, sSeq_s, sIf_s, sSet_s, sRet_s, sFor_s, sNx_s, thenO_nx, thenO_rt, condO_t, condO_f, setO_ok, retO_ok, forO_ok, eN_s, getS_0, getS_s, eC_s, e1_s, e2_s, aN_s, aC_s, eTup_s, eLst_s, tupO_0, tupO_1, tupO_2, tupO_3, tupO_4, lstO_0, lstO_1, lstO_2, lstO_3, lstO_4, eCall_s, eMake_s, eMeth_s, tVal_s, bvO_s, tAndD_s, tOrD_s, andO_t, andO_f, orO_t, orO_f, tNotD_s, tSt_s, strict_ok, eAnd_s, eandO_t, eandO_f, eOr_s, eorO_t, eorO_f, eIf_s, eifO_t, eifO_f, iRng1_s, iRng2_s, iEnum_s, enumD_s, iSeq_s, seqD_l, seqD_t, iOwn_s, iKeysD_s, keysD_s, eGet_s, getO_s, sMut_s, mutO_s, sPut_s, putO_s, addD_s, subD_s, ltD_s, leD_s, gtD_s, geD_s, eqD_ii, neD_ii, intD_s, lenD_l, lenD_t, lenD_s, negD_s, isND_n, isND_i, notND_n, notND_i, bind_o, outD_rt, absD_s, gN_s, gT_s, gsC_s, gsN_s, notD_s, ixE_t0, ixE_t1, ixE_t2, ixE_l0, ixE_l1, ixE_l2, ixE_l3, ixE_l4, List.set_cons_zero, List.set_cons_succ, List.nil_append, List.cons_append, List.append_nil, wipeS, fdivD_s]⟩]
  rw [List.filter_eq_self.mpr fun _ _ => rfl]
  simp only [dDef_s, sSeq_s, sIf_s, sSet_s, sRet_s, sFor_s, sNx_s, thenO_nx, thenO_rt, condO_t, condO_f, setO_ok, retO_ok, forO_ok, eN_s, getS_0, getS_s, eC_s, e1_s, e2_s, aN_s, aC_s, eTup_s, eLst_s, tupO_0, tupO_1, tupO_2, tupO_3, tupO_4, lstO_0, lstO_1, lstO_2, lstO_3, lstO_4, eCall_s, eMake_s, eMeth_s, tVal_s, bvO_s, tAndD_s, tOrD_s, andO_t, andO_f, orO_t, orO_f, tNotD_s, tSt_s, strict_ok, eAnd_s, eandO_t, eandO_f, eOr_s, eorO_t, eorO_f, eIf_s, eifO_t, eifO_f, iRng1_s, iRng2_s, iEnum_s, enumD_s, iSeq_s, seqD_l, seqD_t, iOwn_s, iKeysD_s, keysD_s, eGet_s, getO_s, sMut_s, mutO_s, sPut_s, putO_s, addD_s, subD_s, ltD_s, leD_s, gtD_s, geD_s, eqD_ii, neD_ii, intD_s, lenD_l, lenD_t, lenD_s, negD_s, isND_n, isND_i, notND_n, notND_i, bind_o, outD_rt, absD_s, gN_s, gT_s, gsC_s, gsN_s, notD_s, ixE_t0, ixE_t1, ixE_t2, ixE_l0, ixE_l1, ixE_l2, ixE_l3, ixE_l4, List.set_cons_zero, List.set_cons_succ, List.nil_append, List.cons_append, List.append_nil]
  unfold bndT
  rw [List.map_map]
  rfl
theorem tlen_ok (rows : List Row) (hz : rows.length ≤ 1000) : listOwn "Table" "_rows" F_Table___len__ (tabD rows) = .ok (.lst (rows.map rD)) := by
  have hf : eFld "Table" "_rows" (.ins "Table" [("_rows", .lst (rows.map rD))]) = .ok (.lst (rows.map rD)) := by simp [eFld]
  have hl : F_Table___len__ [.ins "Table" [("_rows", .lst (rows.map rD))]] = .ok (.int (rows.length : Nat)) := by
    unfold F_Table___len__
    simp only [dDef_s, sSeq_s, sIf_s, sSet_s, sRet_s, sFor_s, sNx_s, thenO_nx, thenO_rt, condO_t, condO_f, setO_ok, retO_ok, forO_ok, eN_s, getS_0, getS_s, eC_s, e1_s, e2_s, aN_s, aC_s, eTup_s, eLst_s, tupO_0, tupO_1, tupO_2, tupO_3, tupO_4, lstO_0, lstO_1, lstO_2, lstO_3, lstO_4, eCall_s, eMake_s, eMeth_s, tVal_s, bvO_s, tAndD_s, tOrD_s, andO_t, andO_f, orO_t, orO_f, tNotD_s, tSt_s, strict_ok, eAnd_s, eandO_t, eandO_f, eOr_s, eorO_t, eorO_f, eIf_s, eifO_t, eifO_f, iRng1_s, iRng2_s, iEnum_s, enumD_s, iSeq_s, seqD_l, seqD_t, iOwn_s, iKeysD_s, keysD_s, eGet_s, getO_s, sMut_s, mutO_s, sPut_s, putO_s, addD_s, subD_s, ltD_s, leD_s, gtD_s, geD_s, eqD_ii, neD_ii, intD_s, lenD_l, lenD_t, lenD_s, negD_s, isND_n, isND_i, notND_n, notND_i, bind_o, outD_rt, absD_s, gN_s, gT_s, gsC_s, gsN_s, notD_s, ixE_t0, ixE_t1, ixE_t2, ixE_l0, ixE_l1, ixE_l2, ixE_l3, ixE_l4, List.set_cons_zero, List.set_cons_succ, List.nil_append, List.cons_append, List.append_nil, startD, List.map_cons, List.map_nil, List.length_cons, List.length_nil, Nat.reduceAdd, Nat.reduceSub, List.reduceReplicate, hf, List.length_map]
  unfold listOwn tabD
  simp only [hl]
  simp
  omega
/-! the law -/
theorem in_ints (k : Int) (ns : List Int) : memD true (.int k) (.lst (ns.map D.int)) = .ok (.bl (!decide (k ∈ ns))) := by
  have hf : flatA (ns.map D.int) = some (ns.map L2.V.int) := by
    induction ns with
    | nil => rfl
    | cons i l ih => rw [List.map_cons]; simp only [flatA, flatD]; rw [ih]; rfl
  have hv : L2.inV (L2.V.int k) (ns.map L2.V.int) = decide (k ∈ ns) := by
    unfold L2.inV
    rw [List.any_map, Bool.eq_iff_iff]
    simp [L2.eqV]
  show (match flatA (ns.map D.int) with | some vs => R.ok (D.bl (if true = true then !L2.inV (L2.V.int k) vs else L2.inV (L2.V.int k) vs)) | none => .bad) = _
  rw [hf]
  show R.ok (D.bl (!L2.inV (L2.V.int k) (ns.map L2.V.int))) = _
  rw [hv]
theorem keys_ok (rows : List Row) (hz : rows.length ≤ 1000) (x0 x1 x2 x3 x5 x6 x8 x9 x10 x11 x12 x13 x14 x15 x16 : Option D) : ∃ (y5 : Option D) (ns : List Int), ns.Nodup ∧ (∀ k, k ∈ ns ↔ k ∈ rows.filterMap (·.1)) ∧ fLoop (gN 5) L_law_1 (rows.map rD) [x0, x1, x2, x3, some (.lst (rows.map rD)), x5, x6, some (.lst []), x8, x9, x10, x11, x12, x13, x14, x15, x16] = .nx [x0, x1, x2, x3, some (.lst (rows.map rD)), y5, x6, some (.lst (ns.map D.int)), x8, x9, x10, x11, x12, x13, x14, x15, x16] := by
  refine Exists.elim (fLoop_nx (g := gN 5) (b := L_law_1) (fun i s => ∃ (ns : List Int) (y5 : Option D), ns.Nodup ∧ ns.length ≤ i ∧ (∀ k, k ∈ ns ↔ k ∈ (rows.take i).filterMap (·.1)) ∧ s = [x0, x1, x2, x3, some (.lst (rows.map rD)), y5, x6, some (.lst (ns.map D.int)), x8, x9, x10, x11, x12, x13, x14, x15, x16]) (rows.map rD) 0 [x0, x1, x2, x3, some (.lst (rows.map rD)), x5, x6, some (.lst []), x8, x9, x10, x11, x12, x13, x14, x15, x16]
    ⟨[], x5, by simp, by simp, by simp, rfl⟩ (fun i d s hd hs' => ?_)) (fun s' ⟨h1, h2⟩ => ?_)
  · obtain ⟨ns, y5, g1, g0, g2, rfl⟩ := hs'
    rw [List.getElem?_map] at hd
    cases hr : rows[i]? with
    | none => rw [hr] at hd; cases hd
    | some r =>
      rw [hr] at hd
      cases hd
      have hi : i < rows.length := (List.getElem?_eq_some_iff.mp hr).1
      have ht : rows.take (0 + i + 1) = rows.take (0 + i) ++ [r] := by rw [Nat.zero_add, List.take_add_one, hr]; rfl
      have hlen : (ns.map D.int).length < 16000000 := by rw [List.length_map]; omega
      obtain ⟨k, v⟩ := r
      have e0 : ixE (rD (k, v)) (.int 0) = .ok (kD k) := ixE_t0
      refine ⟨_, rfl, ?_⟩
      unfold L_law_1
      cases k with
      | none =>
        refine ⟨[x0, x1, x2, x3, some (.lst (rows.map rD)), some (rD (none, v)), x6, some (.lst (ns.map D.int)), x8, x9, x10, x11, x12, x13, x14, x15, x16], .inl ?_, ns, _, g1, by omega, fun k => ?_, rfl⟩
        · simp only [dDef_s, sSeq_s, sIf_s, sSet_s, sRet_s, sFor_s, sNx_s, thenO_nx, thenO_rt, condO_t, condO_f, setO_ok, retO_ok, forO_ok, eN_s, getS_0, getS_s, eC_s, e1_s, e2_s, aN_s, aC_s, eTup_s, eLst_s, tupO_0, tupO_1, tupO_2, tupO_3, tupO_4, lstO_0, lstO_1, lstO_2, lstO_3, lstO_4, eCall_s, eMake_s, eMeth_s, tVal_s, bvO_s, tAndD_s, tOrD_s, andO_t, andO_f, orO_t, orO_f, tNotD_s, tSt_s, strict_ok, eAnd_s, eandO_t, eandO_f, eOr_s, eorO_t, eorO_f, eIf_s, eifO_t, eifO_f, iRng1_s, iRng2_s, iEnum_s, enumD_s, iSeq_s, seqD_l, seqD_t, iOwn_s, iKeysD_s, keysD_s, eGet_s, getO_s, sMut_s, mutO_s, sPut_s, putO_s, addD_s, subD_s, ltD_s, leD_s, gtD_s, geD_s, eqD_ii, neD_ii, intD_s, lenD_l, lenD_t, lenD_s, negD_s, isND_n, isND_i, notND_n, notND_i, bind_o, outD_rt, absD_s, gN_s, gT_s, gsC_s, gsN_s, notD_s, ixE_t0, ixE_t1, ixE_t2, ixE_l0, ixE_l1, ixE_l2, ixE_l3, ixE_l4, List.set_cons_zero, List.set_cons_succ, List.nil_append, List.cons_append, List.append_nil, e0, kD]
        · rw [ht, List.filterMap_append, g2 k]; simp
      | some k =>
        by_cases hk : k ∈ ns
        · refine ⟨[x0, x1, x2, x3, some (.lst (rows.map rD)), some (rD (some k, v)), x6, some (.lst (ns.map D.int)), x8, x9, x10, x11, x12, x13, x14, x15, x16], .inl ?_, ns, _, g1, by omega, fun j => ?_, rfl⟩
          · simp only [dDef_s, sSeq_s, sIf_s, sSet_s, sRet_s, sFor_s, sNx_s, thenO_nx, thenO_rt, condO_t, condO_f, setO_ok, retO_ok, forO_ok, eN_s, getS_0, getS_s, eC_s, e1_s, e2_s, aN_s, aC_s, eTup_s, eLst_s, tupO_0, tupO_1, tupO_2, tupO_3, tupO_4, lstO_0, lstO_1, lstO_2, lstO_3, lstO_4, eCall_s, eMake_s, eMeth_s, tVal_s, bvO_s, tAndD_s, tOrD_s, andO_t, andO_f, orO_t, orO_f, tNotD_s, tSt_s, strict_ok, eAnd_s, eandO_t, eandO_f, eOr_s, eorO_t, eorO_f, eIf_s, eifO_t, eifO_f, iRng1_s, iRng2_s, iEnum_s, enumD_s, iSeq_s, seqD_l, seqD_t, iOwn_s, iKeysD_s, keysD_s, eGet_s, getO_s, sMut_s, mutO_s, sPut_s, putO_s, addD_s, subD_s, ltD_s, leD_s, gtD_s, geD_s, eqD_ii, neD_ii, intD_s, lenD_l, lenD_t, lenD_s, negD_s, isND_n, isND_i, notND_n, notND_i, bind_o, outD_rt, absD_s, gN_s, gT_s, gsC_s, gsN_s, notD_s, ixE_t0, ixE_t1, ixE_t2, ixE_l0, ixE_l1, ixE_l2, ixE_l3, ixE_l4, List.set_cons_zero, List.set_cons_succ, List.nil_append, List.cons_append, List.append_nil, e0, kD, in_ints, decide_eq_true hk, Bool.not_true]
          · rw [ht, List.filterMap_append, List.mem_append, ← g2 j]
            simp
            rintro rfl
            exact hk
        · refine ⟨[x0, x1, x2, x3, some (.lst (rows.map rD)), some (rD (some k, v)), x6, some (.lst ((ns ++ [k]).map D.int)), x8, x9, x10, x11, x12, x13, x14, x15, x16], .inl ?_, ns ++ [k], _, ?_, by rw [List.length_append]; simp; omega, fun j => ?_, rfl⟩
          · simp only [dDef_s, sSeq_s, sIf_s, sSet_s, sRet_s, sFor_s, sNx_s, thenO_nx, thenO_rt, condO_t, condO_f, setO_ok, retO_ok, forO_ok, eN_s, getS_0, getS_s, eC_s, e1_s, e2_s, aN_s, aC_s, eTup_s, eLst_s, tupO_0, tupO_1, tupO_2, tupO_3, tupO_4, lstO_0, lstO_1, lstO_2, lstO_3, lstO_4, eCall_s, eMake_s, eMeth_s, tVal_s, bvO_s, tAndD_s, tOrD_s, andO_t, andO_f, orO_t, orO_f, tNotD_s, tSt_s, strict_ok, eAnd_s, eandO_t, eandO_f, eOr_s, eorO_t, eorO_f, eIf_s, eifO_t, eifO_f, iRng1_s, iRng2_s, iEnum_s, enumD_s, iSeq_s, seqD_l, seqD_t, iOwn_s, iKeysD_s, keysD_s, eGet_s, getO_s, sMut_s, mutO_s, sPut_s, putO_s, addD_s, subD_s, ltD_s, leD_s, gtD_s, geD_s, eqD_ii, neD_ii, intD_s, lenD_l, lenD_t, lenD_s, negD_s, isND_n, isND_i, notND_n, notND_i, bind_o, outD_rt, absD_s, gN_s, gT_s, gsC_s, gsN_s, notD_s, ixE_t0, ixE_t1, ixE_t2, ixE_l0, ixE_l1, ixE_l2, ixE_l3, ixE_l4, List.set_cons_zero, List.set_cons_succ, List.nil_append, List.cons_append, List.append_nil, e0, kD, in_ints, decide_eq_false hk, Bool.not_false, mut2_app hlen, List.map_append, List.map_cons, List.map_nil]
          · exact List.nodup_append.mpr ⟨g1, by simp, by intro a ha b hb; simp at hb; subst hb; exact fun z => hk (z ▸ ha)⟩
          · rw [ht, List.filterMap_append, List.mem_append, List.mem_append, ← g2 j]
            simp
  · obtain ⟨ns, y5, g1, g0, g2, rfl⟩ := h2
    have ht : rows.take (0 + (rows.map rD).length) = rows := by rw [List.length_map, Nat.zero_add, List.take_length]
    rw [ht] at g2
    exact ⟨y5, ns, g1, g2, h1⟩
theorem due_ok (rows : List Row) (hz : rows.length ≤ 1000) (x0 x1 x2 x3 x5 x6 x9 x10 x11 x12 x13 x14 x15 x16 : Option D) (ks : List Int) (hk : ks.length ≤ 1000) : ∃ (y9 y10 : Option D), fLoop (gN 9) L_law_2 (ks.map D.int) [x0, x1, x2, x3, some (.lst (rows.map rD)), x5, x6, some (.lst (ks.map D.int)), some (.lst []), x9, x10, x11, x12, x13, x14, x15, x16] = .nx [x0, x1, x2, x3, some (.lst (rows.map rD)), x5, x6, some (.lst (ks.map D.int)), some (.lst ((ks.map some).map (gD rows))), y9, y10, x11, x12, x13, x14, x15, x16] := by
  refine Exists.elim (fLoop_nx (g := gN 9) (b := L_law_2) (fun i s => ∃ (y9 y10 : Option D), s = [x0, x1, x2, x3, some (.lst (rows.map rD)), x5, x6, some (.lst (ks.map D.int)), some (.lst (((ks.take i).map some).map (gD rows))), y9, y10, x11, x12, x13, x14, x15, x16]) (ks.map D.int) 0 [x0, x1, x2, x3, some (.lst (rows.map rD)), x5, x6, some (.lst (ks.map D.int)), some (.lst []), x9, x10, x11, x12, x13, x14, x15, x16]
    ⟨x9, x10, by simp⟩ (fun i d s hd hs' => ?_)) (fun s' ⟨h1, h2⟩ => ?_)
  · obtain ⟨y9, y10, rfl⟩ := hs'
    rw [List.getElem?_map] at hd
    cases hr : ks[i]? with
    | none => rw [hr] at hd; cases hd
    | some k =>
      rw [hr] at hd
      cases hd
      have ht : ks.take (0 + i + 1) = ks.take (0 + i) ++ [k] := by rw [Nat.zero_add, List.take_add_one, hr]; rfl
      have hlen : (((ks.take (0 + i)).map some).map (gD rows)).length < 16000000 := by rw [List.length_map, List.length_map, List.length_take]; omega
      have hlc := eLc_map (vs := [5]) (fi := iSeq (eN 4)) (t := gN 5) (tt := (tAndD (tVal (e2 notND (e2 ixE (eN 5) (eC (.int 0))) (eC .non))) (tVal (e2 eqD (e2 ixE (eN 5) (eC (.int 0))) (eN 9))))) (fe := (e2 ixE (eN 5) (eC (.int 1)))) (s := [x0, x1, x2, x3, some (.lst (rows.map rD)), x5, x6, some (.lst (ks.map D.int)), some (.lst (((ks.take (0 + i)).map some).map (gD rows))), some (.int k), y10, x11, x12, x13, x14, x15, x16]) rD (fun r => decide (r.1 = some k)) (fun r => .int r.2) rows (by simp only [dDef_s, sSeq_s, sIf_s, sSet_s, sRet_s, sFor_s, sNx_s, thenO_nx, thenO_rt, condO_t, condO_f, setO_ok, retO_ok, forO_ok, eN_s, getS_0, getS_s, eC_s, e1_s, e2_s, aN_s, aC_s, eTup_s, eLst_s, tupO_0, tupO_1, tupO_2, tupO_3, tupO_4, lstO_0, lstO_1, lstO_2, lstO_3, lstO_4, eCall_s, eMake_s, eMeth_s, tVal_s, bvO_s, tAndD_s, tOrD_s, andO_t, andO_f, orO_t, orO_f, tNotD_s, tSt_s, strict_ok, eAnd_s, eandO_t, eandO_f, eOr_s, eorO_t, eorO_f, eIf_s, eifO_t, eifO_f, iRng1_s, iRng2_s, iEnum_s, enumD_s, iSeq_s, seqD_l, seqD_t, iOwn_s, iKeysD_s, keysD_s, eGet_s, getO_s, sMut_s, mutO_s, sPut_s, putO_s, addD_s, subD_s, ltD_s, leD_s, gtD_s, geD_s, eqD_ii, neD_ii, intD_s, lenD_l, lenD_t, lenD_s, negD_s, isND_n, isND_i, notND_n, notND_i, bind_o, outD_rt, absD_s, gN_s, gT_s, gsC_s, gsN_s, notD_s, ixE_t0, ixE_t1, ixE_t2, ixE_l0, ixE_l1, ixE_l2, ixE_l3, ixE_l4, List.set_cons_zero, List.set_cons_succ, List.nil_append, List.cons_append, List.append_nil]) (by omega) fun r hr => ⟨_, rfl, by
        obtain ⟨j, v⟩ := r
        have e0 : ixE (rD (j, v)) (.int 0) = .ok (kD j) := ixE_t0
        cases j with
        | none => simp only [dDef_s, sSeq_s, sIf_s, sSet_s, sRet_s, sFor_s, sNx_s, thenO_nx, thenO_rt, condO_t, condO_f, setO_ok, retO_ok, forO_ok, eN_s, getS_0, getS_s, eC_s, e1_s, e2_s, aN_s, aC_s, eTup_s, eLst_s, tupO_0, tupO_1, tupO_2, tupO_3, tupO_4, lstO_0, lstO_1, lstO_2, lstO_3, lstO_4, eCall_s, eMake_s, eMeth_s, tVal_s, bvO_s, tAndD_s, tOrD_s, andO_t, andO_f, orO_t, orO_f, tNotD_s, tSt_s, strict_ok, eAnd_s, eandO_t, eandO_f, eOr_s, eorO_t, eorO_f, eIf_s, eifO_t, eifO_f, iRng1_s, iRng2_s, iEnum_s, enumD_s, iSeq_s, seqD_l, seqD_t, iOwn_s, iKeysD_s, keysD_s, eGet_s, getO_s, sMut_s, mutO_s, sPut_s, putO_s, addD_s, subD_s, ltD_s, leD_s, gtD_s, geD_s, eqD_ii, neD_ii, intD_s, lenD_l, lenD_t, lenD_s, negD_s, isND_n, isND_i, notND_n, notND_i, bind_o, outD_rt, absD_s, gN_s, gT_s, gsC_s, gsN_s, notD_s, ixE_t0, ixE_t1, ixE_t2, ixE_l0, ixE_l1, ixE_l2, ixE_l3, ixE_l4, List.set_cons_zero, List.set_cons_succ, List.nil_append, List.cons_append, List.append_nil, wipeS, e0, kD]; rfl
        | some j => simp only [dDef_s, sSeq_s, sIf_s, sSet_s, sRet_s, sFor_s, sNx_s, thenO_nx, thenO_rt, condO_t, condO_f, setO_ok, retO_ok, forO_ok, eN_s, getS_0, getS_s, eC_s, e1_s, e2_s, aN_s, aC_s, eTup_s, eLst_s, tupO_0, tupO_1, tupO_2, tupO_3, tupO_4, lstO_0, lstO_1, lstO_2, lstO_3, lstO_4, eCall_s, eMake_s, eMeth_s, tVal_s, bvO_s, tAndD_s, tOrD_s, andO_t, andO_f, orO_t, orO_f, tNotD_s, tSt_s, strict_ok, eAnd_s, eandO_t, eandO_f, eOr_s, eorO_t, eorO_f, eIf_s, eifO_t, eifO_f, iRng1_s, iRng2_s, iEnum_s, enumD_s, iSeq_s, seqD_l, seqD_t, iOwn_s, iKeysD_s, keysD_s, eGet_s, getO_s, sMut_s, mutO_s, sPut_s, putO_s, addD_s, subD_s, ltD_s, leD_s, gtD_s, geD_s, eqD_ii, neD_ii, intD_s, lenD_l, lenD_t, lenD_s, negD_s, isND_n, isND_i, notND_n, notND_i, bind_o, outD_rt, absD_s, gN_s, gT_s, gsC_s, gsN_s, notD_s, ixE_t0, ixE_t1, ixE_t2, ixE_l0, ixE_l1, ixE_l2, ixE_l3, ixE_l4, List.set_cons_zero, List.set_cons_succ, List.nil_append, List.cons_append, List.append_nil, wipeS, e0, kD, Option.some.injEq], fun _ => by
        obtain ⟨j, v⟩ := r
        have e1 : ixE (rD (j, v)) (.int 1) = .ok (.int v) := ixE_t1
        simp only [dDef_s, sSeq_s, sIf_s, sSet_s, sRet_s, sFor_s, sNx_s, thenO_nx, thenO_rt, condO_t, condO_f, setO_ok, retO_ok, forO_ok, eN_s, getS_0, getS_s, eC_s, e1_s, e2_s, aN_s, aC_s, eTup_s, eLst_s, tupO_0, tupO_1, tupO_2, tupO_3, tupO_4, lstO_0, lstO_1, lstO_2, lstO_3, lstO_4, eCall_s, eMake_s, eMeth_s, tVal_s, bvO_s, tAndD_s, tOrD_s, andO_t, andO_f, orO_t, orO_f, tNotD_s, tSt_s, strict_ok, eAnd_s, eandO_t, eandO_f, eOr_s, eorO_t, eorO_f, eIf_s, eifO_t, eifO_f, iRng1_s, iRng2_s, iEnum_s, enumD_s, iSeq_s, seqD_l, seqD_t, iOwn_s, iKeysD_s, keysD_s, eGet_s, getO_s, sMut_s, mutO_s, sPut_s, putO_s, addD_s, subD_s, ltD_s, leD_s, gtD_s, geD_s, eqD_ii, neD_ii, intD_s, lenD_l, lenD_t, lenD_s, negD_s, isND_n, isND_i, notND_n, notND_i, bind_o, outD_rt, absD_s, gN_s, gT_s, gsC_s, gsN_s, notD_s, ixE_t0, ixE_t1, ixE_t2, ixE_l0, ixE_l1, ixE_l2, ixE_l3, ixE_l4, List.set_cons_zero, List.set_cons_succ, List.nil_append, List.cons_append, List.append_nil, wipeS, e1]⟩
      refine ⟨_, rfl, _, .inl ?_, some (.int k), some (.lst ((rows.filter fun r => decide (r.1 = some k)).map fun r => .int r.2)), rfl⟩
      unfold L_law_2
      have hsum : sumD (.lst ((rows.filter fun r => decide (r.1 = some k)).map fun r => .int r.2)) = .ok (.int (sm rows (some k))) := by
        have e : ∀ l : List Int, intsOf (l.map D.int) = some l := fun l => by
          induction l with
          | nil => rfl
          | cons i l ih => rw [List.map_cons]; simp only [intsOf]; rw [ih]; rfl
        have e2 : (rows.filter fun r => decide (r.1 = some k)).map (fun r => D.int r.2) = ((rows.filter fun r => decide (r.1 = some k)).map (·.2)).map D.int := by rw [List.map_map]; rfl
        rw [e2]
        show (match intsOf _ with | some ns => R.ok (D.int ns.sum) | none => .bad) = _
        rw [e]
        rfl
      rw [ht]
      simp only [dDef_s, sSeq_s, sIf_s, sSet_s, sRet_s, sFor_s, sNx_s, thenO_nx, thenO_rt, condO_t, condO_f, setO_ok, retO_ok, forO_ok, eN_s, getS_0, getS_s, eC_s, e1_s, e2_s, aN_s, aC_s, eTup_s, eLst_s, tupO_0, tupO_1, tupO_2, tupO_3, tupO_4, lstO_0, lstO_1, lstO_2, lstO_3, lstO_4, eCall_s, eMake_s, eMeth_s, tVal_s, bvO_s, tAndD_s, tOrD_s, andO_t, andO_f, orO_t, orO_f, tNotD_s, tSt_s, strict_ok, eAnd_s, eandO_t, eandO_f, eOr_s, eorO_t, eorO_f, eIf_s, eifO_t, eifO_f, iRng1_s, iRng2_s, iEnum_s, enumD_s, iSeq_s, seqD_l, seqD_t, iOwn_s, iKeysD_s, keysD_s, eGet_s, getO_s, sMut_s, mutO_s, sPut_s, putO_s, addD_s, subD_s, ltD_s, leD_s, gtD_s, geD_s, eqD_ii, neD_ii, intD_s, lenD_l, lenD_t, lenD_s, negD_s, isND_n, isND_i, notND_n, notND_i, bind_o, outD_rt, absD_s, gN_s, gT_s, gsC_s, gsN_s, notD_s, ixE_t0, ixE_t1, ixE_t2, ixE_l0, ixE_l1, ixE_l2, ixE_l3, ixE_l4, List.set_cons_zero, List.set_cons_succ, List.nil_append, List.cons_append, List.append_nil, hlc, hsum, mut2_app hlen, List.map_append, List.map_cons, List.map_nil, List.length_map, gD, cnt, kD]
  · rw [h1]
    obtain ⟨y9, y10, rfl⟩ := h2
    have ht : ks.take (0 + (ks.map D.int).length) = ks := by rw [List.length_map, Nat.zero_add, List.take_length]
    rw [ht]
    exact ⟨y9, y10, rfl⟩
theorem K14_ok (rows : List Row) (hz : rows.length < 64) (room : Int) (hr : 1 ≤ room ∧ room ≤ 9) (x0 x1 x2 x3 x5 x9 x10 x11 x13 x14 x15 x16 : Option D) : outD (K_law_14 [x0, x1, x2, x3, some (.lst (rows.map rD)), x5, some (.int room), some (.lst ((ikeys rows).map D.int)), some (groups rows), x9, x10, x11, some (tabD rows), x13, x14, x15, x16]) = .ok (.bl true) := by
  have hpl := plain_ok rows (by omega)
  have hik : (ikeys rows).length ≤ 64 := Nat.le_trans (ikeys_len rows) (by omega)
  have hgl : (gKeys rows).length ≤ 100 := by
    unfold gKeys
    rw [List.length_append, List.length_map]
    split <;> simp <;> omega
  have hgt : groups rows = .lst (((gKeys rows).map fun k => [kD k, .int (cnt rows k), .int (sm rows k)]).map D.tup) := by unfold groups; rw [List.map_map]; rfl
  have htup : F_law_is_tuples [groups rows, groups rows] = .ok (.bl true) := by
    rw [hgt]
    refine is_tuples_ok _ (by rw [List.length_map]; omega) fun t ht => ?_
    obtain ⟨k, _, rfl⟩ := List.mem_map.mp ht
    refine ⟨by simp, fun d hd => ?_⟩
    simp at hd
    rcases hd with rfl | rfl | rfl
    · cases k with
      | none => exact .inl rfl
      | some k => exact .inr ⟨k, rfl⟩
    · exact .inr ⟨_, rfl⟩
    · exact .inr ⟨_, rfl⟩
  have hb := bounds_ok rows room hz hr
  have htup2 : F_law_is_tuples [.lst ((bndT (ikeys rows) room).map D.tup), .lst ((bndT (ikeys rows) room).map D.tup)] = .ok (.bl true) := by
    refine is_tuples_ok _ (by unfold bndT; rw [List.length_map, List.length_range]; omega) fun t ht => ?_
    unfold bndT at ht
    obtain ⟨i, _, rfl⟩ := List.mem_map.mp ht
    refine ⟨by simp, fun d hd => ?_⟩
    simp at hd
    rcases hd with rfl | rfl
    · exact .inr ⟨_, rfl⟩
    · exact .inr ⟨_, rfl⟩
  have hbnd : ∀ x13 x14 x15 x16, eLc [15] (iRng1 (aC (e1 lenD (eN 7)) aN)) (gN 15) tY (eTup (aC (e2 ixE (eN 7) (eN 15)) (aC (e2 fdivD (eN 15) (eN 6)) aN))) [x0, x1, x2, x3, some (.lst (rows.map rD)), x5, some (.int room), some (.lst ((ikeys rows).map D.int)), some (groups rows), x9, x10, x11, some (tabD rows), x13, x14, x15, x16] = .ok (.lst ((bndT (ikeys rows) room).map D.tup)) := fun x13 x14 x15 x16 => by
    have hrg : rng1D [.int (((ikeys rows).map D.int).length : Nat)] = .ok (nums 0 ((ikeys rows).map D.int).length) := rng1D_nat (by rw [List.length_map]; omega)
    rw [eLc_map (fun (i : Nat) => D.int (0 + (i : Int))) (fun _ => true) (fun (i : Nat) => .tup [.int ((ikeys rows).getD i 0), .int ((i : Int) / room)]) (List.range (ikeys rows).length) (by simp only [dDef_s, sSeq_s, sIf_s, sSet_s, sRet_s, sFor_s, sNx_s, thenO_nx, thenO_rt, condO_t, condO_f, setO_ok, retO_ok, forO_ok, eN_s, getS_0, getS_s, eC_s, e1_s, e2_s, aN_s, aC_s, eTup_s, eLst_s, tupO_0, tupO_1, tupO_2, tupO_3, tupO_4, lstO_0, lstO_1, lstO_2, lstO_3, lstO_4, eCall_s, eMake_s, eMeth_s, tVal_s, bvO_s, tAndD_s, tOrD_s, andO_t, andO_f, orO_t, orO_f, tNotD_s, tSt_s, strict_ok, eAnd_s, eandO_t, eandO_f, eOr_s, eorO_t, eorO_f, eIf_s, eifO_t, eifO_f, iRng1_s, iRng2_s, iEnum_s, enumD_s, iSeq_s, seqD_l, seqD_t, iOwn_s, iKeysD_s, keysD_s, eGet_s, getO_s, sMut_s, mutO_s, sPut_s, putO_s, addD_s, subD_s, ltD_s, leD_s, gtD_s, geD_s, eqD_ii, neD_ii, intD_s, lenD_l, lenD_t, lenD_s, negD_s, isND_n, isND_i, notND_n, notND_i, bind_o, outD_rt, absD_s, gN_s, gT_s, gsC_s, gsN_s, notD_s, ixE_t0, ixE_t1, ixE_t2, ixE_l0, ixE_l1, ixE_l2, ixE_l3, ixE_l4, List.set_cons_zero, List.set_cons_succ, List.nil_append, List.cons_append, List.append_nil, hrg]; rw [List.length_map]; rfl) (by rw [List.length_range]; omega) fun i hi => ⟨_, rfl, rfl, fun _ => by
      have hi := List.mem_range.mp hi
      have h0 : (0 : Int) + (i : Int) = (i : Int) := by omega
      have hx : ixE (.lst ((ikeys rows).map D.int)) (.int (i : Int)) = .ok (.int ((ikeys rows).getD i 0)) := ixE_l (by omega) (by rw [Int.toNat_natCast, List.getElem?_map, List.getElem?_eq_getElem hi, List.getD_eq_getElem?_getD, List.getElem?_eq_getElem hi]; rfl)
      simp (disch := omega) only [dDef_s, sSeq_s, sIf_s, sSet_s, sRet_s, sFor_s, sNx_s, thenO_nx, thenO_rt, condO_t, condO_f, setO_ok, retO_ok, forO_ok, eN_s, getS_0, getS_s, eC_s, e1_s, e2_s, aN_s, aC_s, eTup_s, eLst_s, tupO_0, tupO_1, tupO_2, tupO_3, tupO_4, lstO_0, lstO_1, lstO_2, lstO_3, lstO_4, eCall_s, eMake_s, eMeth_s, tVal_s, bvO_s, tAndD_s, tOrD_s, andO_t, andO_f, orO_t, orO_f, tNotD_s, tSt_s, strict_ok, eAnd_s, eandO_t, eandO_f, eOr_s, eorO_t, eorO_f, eIf_s, eifO_t, eifO_f, iRng1_s, iRng2_s, iEnum_s, enumD_s, iSeq_s, seqD_l, seqD_t, iOwn_s, iKeysD_s, keysD_s, eGet_s, getO_s, sMut_s, mutO_s, sPut_s, putO_s, addD_s, subD_s, ltD_s, leD_s, gtD_s, geD_s, eqD_ii, neD_ii, intD_s, lenD_l, lenD_t, lenD_s, negD_s, isND_n, isND_i, notND_n, notND_i, bind_o, outD_rt, absD_s, gN_s, gT_s, gsC_s, gsN_s, notD_s, ixE_t0, ixE_t1, ixE_t2, ixE_l0, ixE_l1, ixE_l2, ixE_l3, ixE_l4, List.set_cons_zero, List.set_cons_succ, List.nil_append, List.cons_append, List.append_nil, wipeS, h0, hx, fdivD_s]⟩]
    rw [List.filter_eq_self.mpr fun _ _ => rfl]
    unfold bndT
    rw [List.map_map]
    rfl
  have hlist := tlen_ok rows (by omega)
  have heq : eqD (.lst (rows.map rD)) (.lst (rows.map rD)) = .ok (.bl true) := eqD_self (shp_of (n := 2) (shpN_lst fun d hd => by
    obtain ⟨⟨k, v⟩, _, rfl⟩ := List.mem_map.mp hd
    exact shpN_tup fun d hd => by
      simp at hd
      rcases hd with rfl | rfl
      · cases k <;> rfl
      · rfl) (by omega))
  have hgr : ∀ s', mut2 13 s' appL ((gKeys rows).map (gD rows)) (.ok [.tup [.int 0, .int 0, .int 0]]) = .nx (s'.set 13 (some (.lst ((gKeys rows).map (gD rows) ++ [.tup [.int 0, .int 0, .int 0]])))) := fun s' => mut2_app (by rw [List.length_map]; omega)
  have hgg : groups rows = .lst ((gKeys rows).map (gD rows)) := rfl
  unfold K_law_14
  rw [hgg] at hpl htup hbnd ⊢
  simp only [dDef_s, sSeq_s, sIf_s, sSet_s, sRet_s, sFor_s, sNx_s, thenO_nx, thenO_rt, condO_t, condO_f, setO_ok, retO_ok, forO_ok, eN_s, getS_0, getS_s, eC_s, e1_s, e2_s, aN_s, aC_s, eTup_s, eLst_s, tupO_0, tupO_1, tupO_2, tupO_3, tupO_4, lstO_0, lstO_1, lstO_2, lstO_3, lstO_4, eCall_s, eMake_s, eMeth_s, tVal_s, bvO_s, tAndD_s, tOrD_s, andO_t, andO_f, orO_t, orO_f, tNotD_s, tSt_s, strict_ok, eAnd_s, eandO_t, eandO_f, eOr_s, eorO_t, eorO_f, eIf_s, eifO_t, eifO_f, iRng1_s, iRng2_s, iEnum_s, enumD_s, iSeq_s, seqD_l, seqD_t, iOwn_s, iKeysD_s, keysD_s, eGet_s, getO_s, sMut_s, mutO_s, sPut_s, putO_s, addD_s, subD_s, ltD_s, leD_s, gtD_s, geD_s, eqD_ii, neD_ii, intD_s, lenD_l, lenD_t, lenD_s, negD_s, isND_n, isND_i, notND_n, notND_i, bind_o, outD_rt, absD_s, gN_s, gT_s, gsC_s, gsN_s, notD_s, ixE_t0, ixE_t1, ixE_t2, ixE_l0, ixE_l1, ixE_l2, ixE_l3, ixE_l4, List.set_cons_zero, List.set_cons_succ, List.nil_append, List.cons_append, List.append_nil, hpl, htup, Bool.not_true, hgr, hbnd, hb, htup2, mut2_rev, hlist, heq]
theorem K12_ok (rows : List Row) (hz : rows.length < 64) (room : Int) (hr : 1 ≤ room ∧ room ≤ 9) (x0 x1 x2 x3 x5 x9 x10 x12 x13 x14 x15 x16 : Option D) : outD (K_law_12 [x0, x1, x2, x3, some (.lst (rows.map rD)), x5, some (.int room), some (.lst ((ikeys rows).map D.int)), some (.lst (((ikeys rows).map some).map (gD rows))), x9, x10, some (.lst ((rows.filter fun r => decide (r.1 = none)).map fun r => .int r.2)), x12, x13, x14, x15, x16]) = .ok (.bl true) := by
  have hlen : (((ikeys rows).map some).map (gD rows)).length < 16000000 := by
    rw [List.length_map, List.length_map]
    have := ikeys_len rows
    omega
  have hsum : sumD (.lst ((rows.filter fun r => decide (r.1 = none)).map fun r => .int r.2)) = .ok (.int (sm rows none)) := by
    have e : ∀ l : List Int, intsOf (l.map D.int) = some l := fun l => by
      induction l with
      | nil => rfl
      | cons i l ih => rw [List.map_cons]; simp only [intsOf]; rw [ih]; rfl
    have e2 : (rows.filter fun r => decide (r.1 = none)).map (fun r => D.int r.2) = ((rows.filter fun r => decide (r.1 = none)).map (·.2)).map D.int := by rw [List.map_map]; rfl
    rw [e2]
    show (match intsOf _ with | some ns => R.ok (D.int ns.sum) | none => .bad) = _
    rw [e]
    rfl
  have hin := init_ok rows (by omega)
  have hli : listD (.lst (rows.map rD)) = .ok (.lst (rows.map rD)) := rfl
  have hcn : (((rows.filter fun r => decide (r.1 = none)).length : Nat) : Int) = cnt rows none := rfl
  unfold K_law_12
  by_cases h : 0 < cnt rows none
  · have hg : ((ikeys rows).map some).map (gD rows) ++ [D.tup [.non, .int (cnt rows none), .int (sm rows none)]] = (gKeys rows).map (gD rows) := by
      unfold gKeys
      rw [if_pos h, List.map_append]
      rfl
    simp only [dDef_s, sSeq_s, sIf_s, sSet_s, sRet_s, sFor_s, sNx_s, thenO_nx, thenO_rt, condO_t, condO_f, setO_ok, retO_ok, forO_ok, eN_s, getS_0, getS_s, eC_s, e1_s, e2_s, aN_s, aC_s, eTup_s, eLst_s, tupO_0, tupO_1, tupO_2, tupO_3, tupO_4, lstO_0, lstO_1, lstO_2, lstO_3, lstO_4, eCall_s, eMake_s, eMeth_s, tVal_s, bvO_s, tAndD_s, tOrD_s, andO_t, andO_f, orO_t, orO_f, tNotD_s, tSt_s, strict_ok, eAnd_s, eandO_t, eandO_f, eOr_s, eorO_t, eorO_f, eIf_s, eifO_t, eifO_f, iRng1_s, iRng2_s, iEnum_s, enumD_s, iSeq_s, seqD_l, seqD_t, iOwn_s, iKeysD_s, keysD_s, eGet_s, getO_s, sMut_s, mutO_s, sPut_s, putO_s, addD_s, subD_s, ltD_s, leD_s, gtD_s, geD_s, eqD_ii, neD_ii, intD_s, lenD_l, lenD_t, lenD_s, negD_s, isND_n, isND_i, notND_n, notND_i, bind_o, outD_rt, absD_s, gN_s, gT_s, gsC_s, gsN_s, notD_s, ixE_t0, ixE_t1, ixE_t2, ixE_l0, ixE_l1, ixE_l2, ixE_l3, ixE_l4, List.set_cons_zero, List.set_cons_succ, List.nil_append, List.cons_append, List.append_nil, List.length_map, hcn, decide_eq_true h, hsum, mut2_app hlen, hg, hli, hin]
    exact K14_ok rows hz room hr _ _ _ _ _ _ _ _ _ _ _ _
  · have hg : ((ikeys rows).map some).map (gD rows) = (gKeys rows).map (gD rows) := by
      unfold gKeys
      rw [if_neg h, List.append_nil]
    simp only [dDef_s, sSeq_s, sIf_s, sSet_s, sRet_s, sFor_s, sNx_s, thenO_nx, thenO_rt, condO_t, condO_f, setO_ok, retO_ok, forO_ok, eN_s, getS_0, getS_s, eC_s, e1_s, e2_s, aN_s, aC_s, eTup_s, eLst_s, tupO_0, tupO_1, tupO_2, tupO_3, tupO_4, lstO_0, lstO_1, lstO_2, lstO_3, lstO_4, eCall_s, eMake_s, eMeth_s, tVal_s, bvO_s, tAndD_s, tOrD_s, andO_t, andO_f, orO_t, orO_f, tNotD_s, tSt_s, strict_ok, eAnd_s, eandO_t, eandO_f, eOr_s, eorO_t, eorO_f, eIf_s, eifO_t, eifO_f, iRng1_s, iRng2_s, iEnum_s, enumD_s, iSeq_s, seqD_l, seqD_t, iOwn_s, iKeysD_s, keysD_s, eGet_s, getO_s, sMut_s, mutO_s, sPut_s, putO_s, addD_s, subD_s, ltD_s, leD_s, gtD_s, geD_s, eqD_ii, neD_ii, intD_s, lenD_l, lenD_t, lenD_s, negD_s, isND_n, isND_i, notND_n, notND_i, bind_o, outD_rt, absD_s, gN_s, gT_s, gsC_s, gsN_s, notD_s, ixE_t0, ixE_t1, ixE_t2, ixE_l0, ixE_l1, ixE_l2, ixE_l3, ixE_l4, List.set_cons_zero, List.set_cons_succ, List.nil_append, List.cons_append, List.append_nil, List.length_map, hcn, decide_eq_false h, hg, hli, hin]
    exact K14_ok rows hz room hr _ _ _ _ _ _ _ _ _ _ _ _
theorem K5_ok (rows : List Row) (hz : rows.length < 64) (x0 x2 x3 x5 : Option D) (a b c d e : Int) : outD (K_law_5 [x0, some (.lst [.int a, .int b, .int c, .int d, .int e]), x2, x3, some (.lst (rows.map rD)), x5, none, none, none, none, none, none, none, none, none, none, none]) = .ok (.bl true) := by
  have hroom : 1 ≤ 1 + e % 9 ∧ 1 + e % 9 ≤ 9 := by omega
  unfold K_law_5
  simp (disch := omega) only [dDef_s, sSeq_s, sIf_s, sSet_s, sRet_s, sFor_s, sNx_s, thenO_nx, thenO_rt, condO_t, condO_f, setO_ok, retO_ok, forO_ok, eN_s, getS_0, getS_s, eC_s, e1_s, e2_s, aN_s, aC_s, eTup_s, eLst_s, tupO_0, tupO_1, tupO_2, tupO_3, tupO_4, lstO_0, lstO_1, lstO_2, lstO_3, lstO_4, eCall_s, eMake_s, eMeth_s, tVal_s, bvO_s, tAndD_s, tOrD_s, andO_t, andO_f, orO_t, orO_f, tNotD_s, tSt_s, strict_ok, eAnd_s, eandO_t, eandO_f, eOr_s, eorO_t, eorO_f, eIf_s, eifO_t, eifO_f, iRng1_s, iRng2_s, iEnum_s, enumD_s, iSeq_s, seqD_l, seqD_t, iOwn_s, iKeysD_s, keysD_s, eGet_s, getO_s, sMut_s, mutO_s, sPut_s, putO_s, addD_s, subD_s, ltD_s, leD_s, gtD_s, geD_s, eqD_ii, neD_ii, intD_s, lenD_l, lenD_t, lenD_s, negD_s, isND_n, isND_i, notND_n, notND_i, bind_o, outD_rt, absD_s, gN_s, gT_s, gsC_s, gsN_s, notD_s, ixE_t0, ixE_t1, ixE_t2, ixE_l0, ixE_l1, ixE_l2, ixE_l3, ixE_l4, List.set_cons_zero, List.set_cons_succ, List.nil_append, List.cons_append, List.append_nil, modD_s]
  generalize 1 + e % 9 = room at hroom
  obtain ⟨y5, ns, g1, g2, g3⟩ := keys_ok rows (by omega) x0 (some (.lst [.int a, .int b, .int c, .int d, .int e])) x2 x3 x5 (some (.int room)) none none none none none none none none none
  rw [g3]
  have hset : setL ns = ikeys rows := by
    unfold ikeys
    refine lt_uniq (setL_lt _) (setL_lt _) fun k => ?_
    rw [mem_setL, mem_setL]
    exact g2 k
  have hs := sortD_ints g1
  rw [hset] at hs
  have hik : (ikeys rows).length ≤ 64 := Nat.le_trans (ikeys_len rows) (by omega)
  unfold K_law_8
  simp only [dDef_s, sSeq_s, sIf_s, sSet_s, sRet_s, sFor_s, sNx_s, thenO_nx, thenO_rt, condO_t, condO_f, setO_ok, retO_ok, forO_ok, eN_s, getS_0, getS_s, eC_s, e1_s, e2_s, aN_s, aC_s, eTup_s, eLst_s, tupO_0, tupO_1, tupO_2, tupO_3, tupO_4, lstO_0, lstO_1, lstO_2, lstO_3, lstO_4, eCall_s, eMake_s, eMeth_s, tVal_s, bvO_s, tAndD_s, tOrD_s, andO_t, andO_f, orO_t, orO_f, tNotD_s, tSt_s, strict_ok, eAnd_s, eandO_t, eandO_f, eOr_s, eorO_t, eorO_f, eIf_s, eifO_t, eifO_f, iRng1_s, iRng2_s, iEnum_s, enumD_s, iSeq_s, seqD_l, seqD_t, iOwn_s, iKeysD_s, keysD_s, eGet_s, getO_s, sMut_s, mutO_s, sPut_s, putO_s, addD_s, subD_s, ltD_s, leD_s, gtD_s, geD_s, eqD_ii, neD_ii, intD_s, lenD_l, lenD_t, lenD_s, negD_s, isND_n, isND_i, notND_n, notND_i, bind_o, outD_rt, absD_s, gN_s, gT_s, gsC_s, gsN_s, notD_s, ixE_t0, ixE_t1, ixE_t2, ixE_l0, ixE_l1, ixE_l2, ixE_l3, ixE_l4, List.set_cons_zero, List.set_cons_succ, List.nil_append, List.cons_append, List.append_nil, hs]
  obtain ⟨y9, y10, h1⟩ := due_ok rows (by omega) x0 (some (.lst [.int a, .int b, .int c, .int d, .int e])) x2 x3 y5 (some (.int room)) none none none none none none none none (ikeys rows) (by omega)
  rw [h1]
  have hlc := eLc_map (vs := [5]) (fi := iSeq (eN 4)) (t := gN 5) (tt := (tVal (e2 isND (e2 ixE (eN 5) (eC (.int 0))) (eC .non)))) (fe := (e2 ixE (eN 5) (eC (.int 1)))) (s := [x0, some (.lst [.int a, .int b, .int c, .int d, .int e]), x2, x3, some (.lst (rows.map rD)), y5, some (.int room), some (.lst ((ikeys rows).map D.int)), some (.lst (((ikeys rows).map some).map (gD rows))), y9, y10, none, none, none, none, none, none]) rD (fun r => decide (r.1 = none)) (fun r => .int r.2) rows (by simp only [dDef_s, sSeq_s, sIf_s, sSet_s, sRet_s, sFor_s, sNx_s, thenO_nx, thenO_rt, condO_t, condO_f, setO_ok, retO_ok, forO_ok, eN_s, getS_0, getS_s, eC_s, e1_s, e2_s, aN_s, aC_s, eTup_s, eLst_s, tupO_0, tupO_1, tupO_2, tupO_3, tupO_4, lstO_0, lstO_1, lstO_2, lstO_3, lstO_4, eCall_s, eMake_s, eMeth_s, tVal_s, bvO_s, tAndD_s, tOrD_s, andO_t, andO_f, orO_t, orO_f, tNotD_s, tSt_s, strict_ok, eAnd_s, eandO_t, eandO_f, eOr_s, eorO_t, eorO_f, eIf_s, eifO_t, eifO_f, iRng1_s, iRng2_s, iEnum_s, enumD_s, iSeq_s, seqD_l, seqD_t, iOwn_s, iKeysD_s, keysD_s, eGet_s, getO_s, sMut_s, mutO_s, sPut_s, putO_s, addD_s, subD_s, ltD_s, leD_s, gtD_s, geD_s, eqD_ii, neD_ii, intD_s, lenD_l, lenD_t, lenD_s, negD_s, isND_n, isND_i, notND_n, notND_i, bind_o, outD_rt, absD_s, gN_s, gT_s, gsC_s, gsN_s, notD_s, ixE_t0, ixE_t1, ixE_t2, ixE_l0, ixE_l1, ixE_l2, ixE_l3, ixE_l4, List.set_cons_zero, List.set_cons_succ, List.nil_append, List.cons_append, List.append_nil]) (by omega) fun r hr => ⟨_, rfl, by
    obtain ⟨j, v⟩ := r
    have e0 : ixE (rD (j, v)) (.int 0) = .ok (kD j) := ixE_t0
    simp only [dDef_s, sSeq_s, sIf_s, sSet_s, sRet_s, sFor_s, sNx_s, thenO_nx, thenO_rt, condO_t, condO_f, setO_ok, retO_ok, forO_ok, eN_s, getS_0, getS_s, eC_s, e1_s, e2_s, aN_s, aC_s, eTup_s, eLst_s, tupO_0, tupO_1, tupO_2, tupO_3, tupO_4, lstO_0, lstO_1, lstO_2, lstO_3, lstO_4, eCall_s, eMake_s, eMeth_s, tVal_s, bvO_s, tAndD_s, tOrD_s, andO_t, andO_f, orO_t, orO_f, tNotD_s, tSt_s, strict_ok, eAnd_s, eandO_t, eandO_f, eOr_s, eorO_t, eorO_f, eIf_s, eifO_t, eifO_f, iRng1_s, iRng2_s, iEnum_s, enumD_s, iSeq_s, seqD_l, seqD_t, iOwn_s, iKeysD_s, keysD_s, eGet_s, getO_s, sMut_s, mutO_s, sPut_s, putO_s, addD_s, subD_s, ltD_s, leD_s, gtD_s, geD_s, eqD_ii, neD_ii, intD_s, lenD_l, lenD_t, lenD_s, negD_s, isND_n, isND_i, notND_n, notND_i, bind_o, outD_rt, absD_s, gN_s, gT_s, gsC_s, gsN_s, notD_s, ixE_t0, ixE_t1, ixE_t2, ixE_l0, ixE_l1, ixE_l2, ixE_l3, ixE_l4, List.set_cons_zero, List.set_cons_succ, List.nil_append, List.cons_append, List.append_nil, wipeS, e0, isND_k]
    cases j <;> rfl, fun _ => by
    obtain ⟨j, v⟩ := r
    have e1 : ixE (rD (j, v)) (.int 1) = .ok (.int v) := ixE_t1
    simp only [dDef_s, sSeq_s, sIf_s, sSet_s, sRet_s, sFor_s, sNx_s, thenO_nx, thenO_rt, condO_t, condO_f, setO_ok, retO_ok, forO_ok, eN_s, getS_0, getS_s, eC_s, e1_s, e2_s, aN_s, aC_s, eTup_s, eLst_s, tupO_0, tupO_1, tupO_2, tupO_3, tupO_4, lstO_0, lstO_1, lstO_2, lstO_3, lstO_4, eCall_s, eMake_s, eMeth_s, tVal_s, bvO_s, tAndD_s, tOrD_s, andO_t, andO_f, orO_t, orO_f, tNotD_s, tSt_s, strict_ok, eAnd_s, eandO_t, eandO_f, eOr_s, eorO_t, eorO_f, eIf_s, eifO_t, eifO_f, iRng1_s, iRng2_s, iEnum_s, enumD_s, iSeq_s, seqD_l, seqD_t, iOwn_s, iKeysD_s, keysD_s, eGet_s, getO_s, sMut_s, mutO_s, sPut_s, putO_s, addD_s, subD_s, ltD_s, leD_s, gtD_s, geD_s, eqD_ii, neD_ii, intD_s, lenD_l, lenD_t, lenD_s, negD_s, isND_n, isND_i, notND_n, notND_i, bind_o, outD_rt, absD_s, gN_s, gT_s, gsC_s, gsN_s, notD_s, ixE_t0, ixE_t1, ixE_t2, ixE_l0, ixE_l1, ixE_l2, ixE_l3, ixE_l4, List.set_cons_zero, List.set_cons_succ, List.nil_append, List.cons_append, List.append_nil, wipeS, e1]⟩
  simp only [dDef_s, sSeq_s, sIf_s, sSet_s, sRet_s, sFor_s, sNx_s, thenO_nx, thenO_rt, condO_t, condO_f, setO_ok, retO_ok, forO_ok, eN_s, getS_0, getS_s, eC_s, e1_s, e2_s, aN_s, aC_s, eTup_s, eLst_s, tupO_0, tupO_1, tupO_2, tupO_3, tupO_4, lstO_0, lstO_1, lstO_2, lstO_3, lstO_4, eCall_s, eMake_s, eMeth_s, tVal_s, bvO_s, tAndD_s, tOrD_s, andO_t, andO_f, orO_t, orO_f, tNotD_s, tSt_s, strict_ok, eAnd_s, eandO_t, eandO_f, eOr_s, eorO_t, eorO_f, eIf_s, eifO_t, eifO_f, iRng1_s, iRng2_s, iEnum_s, enumD_s, iSeq_s, seqD_l, seqD_t, iOwn_s, iKeysD_s, keysD_s, eGet_s, getO_s, sMut_s, mutO_s, sPut_s, putO_s, addD_s, subD_s, ltD_s, leD_s, gtD_s, geD_s, eqD_ii, neD_ii, intD_s, lenD_l, lenD_t, lenD_s, negD_s, isND_n, isND_i, notND_n, notND_i, bind_o, outD_rt, absD_s, gN_s, gT_s, gsC_s, gsN_s, notD_s, ixE_t0, ixE_t1, ixE_t2, ixE_l0, ixE_l1, ixE_l2, ixE_l3, ixE_l4, List.set_cons_zero, List.set_cons_succ, List.nil_append, List.cons_append, List.append_nil, hlc]
  exact K12_ok rows hz room hroom _ _ _ _ _ _ _ _ _ _ _ _
theorem law_true : ∀ ns : List Int, ns.length ≤ 63 → F_law [.scr (ns.map D.int)] = .ok (.bl true) := by
  intro ns _
  obtain ⟨ds, l1, l2, l3⟩ := draws_ok ns 0 5 (by omega)
  obtain ⟨a, b, c, d, e, rfl⟩ : ∃ a b c d e, ds = [a, b, c, d, e] := by
    match ds, l1 with
    | [a, b, c, d, e], _ => exact ⟨a, b, c, d, e, rfl⟩
  have l3 : F_law_draws [.scr (ns.map D.int), .int 0, .int 5] = .ok (.lst [.int a, .int b, .int c, .int d, .int e]) := l3
  obtain ⟨step, hs1, hs2⟩ : ∃ step : Int, (-2000000000 ≤ step ∧ step ≤ 2000000000) ∧ ixE (.lst [.int 1, .int 1000000007, .int (-1)]) (.int (c % 3)) = .ok (.int step) := by
    have h : c % 3 = 0 ∨ c % 3 = 1 ∨ c % 3 = 2 := by omega
    rcases h with h | h | h <;> rw [h]
    · exact ⟨1, by omega, ixE_l0⟩
    · exact ⟨1000000007, by omega, ixE_l1⟩
    · exact ⟨-1, by omega, ixE_l2⟩
  obtain ⟨rows, r1, r2, r3⟩ := rows_ok ns (a % 41).toNat (1 + b % 12) step (by omega) (by omega) hs1
  have hm : (((a % 41).toNat : Nat) : Int) = a % 41 := by omega
  rw [hm] at r3
  have hz : rows.length < 64 := by omega
  have hp : powD (.int 10) (.int 20) = .ok (.int (10 ^ (20 : Int).toNat)) := powD_s (by decide) (by decide) (by decide)
  unfold F_law
  simp (disch := omega) only [dDef_s, sSeq_s, sIf_s, sSet_s, sRet_s, sFor_s, sNx_s, thenO_nx, thenO_rt, condO_t, condO_f, setO_ok, retO_ok, forO_ok, eN_s, getS_0, getS_s, eC_s, e1_s, e2_s, aN_s, aC_s, eTup_s, eLst_s, tupO_0, tupO_1, tupO_2, tupO_3, tupO_4, lstO_0, lstO_1, lstO_2, lstO_3, lstO_4, eCall_s, eMake_s, eMeth_s, tVal_s, bvO_s, tAndD_s, tOrD_s, andO_t, andO_f, orO_t, orO_f, tNotD_s, tSt_s, strict_ok, eAnd_s, eandO_t, eandO_f, eOr_s, eorO_t, eorO_f, eIf_s, eifO_t, eifO_f, iRng1_s, iRng2_s, iEnum_s, enumD_s, iSeq_s, seqD_l, seqD_t, iOwn_s, iKeysD_s, keysD_s, eGet_s, getO_s, sMut_s, mutO_s, sPut_s, putO_s, addD_s, subD_s, ltD_s, leD_s, gtD_s, geD_s, eqD_ii, neD_ii, intD_s, lenD_l, lenD_t, lenD_s, negD_s, isND_n, isND_i, notND_n, notND_i, bind_o, outD_rt, absD_s, gN_s, gT_s, gsC_s, gsN_s, notD_s, ixE_t0, ixE_t1, ixE_t2, ixE_l0, ixE_l1, ixE_l2, ixE_l3, ixE_l4, List.set_cons_zero, List.set_cons_succ, List.nil_append, List.cons_append, List.append_nil, startD, List.map_cons, List.map_nil, List.length_cons, List.length_nil, Nat.reduceAdd, Nat.reduceSub, List.reduceReplicate, l3, modD_s, hs2, r3]
  by_cases h3 : d % 3 = 1
  · have hlc := eLc_map (vs := [5]) (fi := iSeq (eN 4)) (t := gN 5) (tt := tY) (fe := (eTup (aC (e2 ixE (eN 5) (eC (.int 0))) (aC (e2 mulD (e2 ixE (eN 5) (eC (.int 1))) (e2 powD (eC (.int 10)) (eC (.int 20)))) aN)))) (s := [some (.scr (ns.map D.int)), some (.lst [.int a, .int b, .int c, .int d, .int e]), some (.int (1 + b % 12)), some (.int step), some (.lst (rows.map rD)), none, none, none, none, none, none, none, none, none, none, none, none]) rD (fun _ => true) (fun r => rD (r.1, r.2 * 10 ^ (20 : Int).toNat)) rows (by simp only [dDef_s, sSeq_s, sIf_s, sSet_s, sRet_s, sFor_s, sNx_s, thenO_nx, thenO_rt, condO_t, condO_f, setO_ok, retO_ok, forO_ok, eN_s, getS_0, getS_s, eC_s, e1_s, e2_s, aN_s, aC_s, eTup_s, eLst_s, tupO_0, tupO_1, tupO_2, tupO_3, tupO_4, lstO_0, lstO_1, lstO_2, lstO_3, lstO_4, eCall_s, eMake_s, eMeth_s, tVal_s, bvO_s, tAndD_s, tOrD_s, andO_t, andO_f, orO_t, orO_f, tNotD_s, tSt_s, strict_ok, eAnd_s, eandO_t, eandO_f, eOr_s, eorO_t, eorO_f, eIf_s, eifO_t, eifO_f, iRng1_s, iRng2_s, iEnum_s, enumD_s, iSeq_s, seqD_l, seqD_t, iOwn_s, iKeysD_s, keysD_s, eGet_s, getO_s, sMut_s, mutO_s, sPut_s, putO_s, addD_s, subD_s, ltD_s, leD_s, gtD_s, geD_s, eqD_ii, neD_ii, intD_s, lenD_l, lenD_t, lenD_s, negD_s, isND_n, isND_i, notND_n, notND_i, bind_o, outD_rt, absD_s, gN_s, gT_s, gsC_s, gsN_s, notD_s, ixE_t0, ixE_t1, ixE_t2, ixE_l0, ixE_l1, ixE_l2, ixE_l3, ixE_l4, List.set_cons_zero, List.set_cons_succ, List.nil_append, List.cons_append, List.append_nil]) (by omega) fun r hr => ⟨_, rfl, rfl, fun _ => by
      obtain ⟨j, v⟩ := r
      have hv := r2 _ hr
      have e0 : ixE (rD (j, v)) (.int 0) = .ok (kD j) := ixE_t0
      have e1 : ixE (rD (j, v)) (.int 1) = .ok (.int v) := ixE_t1
      have hmu : mulD (.int v) (.int (10 ^ (20 : Int).toNat)) = .ok (.int (v * 10 ^ (20 : Int).toNat)) := mulD_l (by have := hv.1; simp at this; omega) (by have := hv.2; simp at this; omega)
      simp only [dDef_s, sSeq_s, sIf_s, sSet_s, sRet_s, sFor_s, sNx_s, thenO_nx, thenO_rt, condO_t, condO_f, setO_ok, retO_ok, forO_ok, eN_s, getS_0, getS_s, eC_s, e1_s, e2_s, aN_s, aC_s, eTup_s, eLst_s, tupO_0, tupO_1, tupO_2, tupO_3, tupO_4, lstO_0, lstO_1, lstO_2, lstO_3, lstO_4, eCall_s, eMake_s, eMeth_s, tVal_s, bvO_s, tAndD_s, tOrD_s, andO_t, andO_f, orO_t, orO_f, tNotD_s, tSt_s, strict_ok, eAnd_s, eandO_t, eandO_f, eOr_s, eorO_t, eorO_f, eIf_s, eifO_t, eifO_f, iRng1_s, iRng2_s, iEnum_s, enumD_s, iSeq_s, seqD_l, seqD_t, iOwn_s, iKeysD_s, keysD_s, eGet_s, getO_s, sMut_s, mutO_s, sPut_s, putO_s, addD_s, subD_s, ltD_s, leD_s, gtD_s, geD_s, eqD_ii, neD_ii, intD_s, lenD_l, lenD_t, lenD_s, negD_s, isND_n, isND_i, notND_n, notND_i, bind_o, outD_rt, absD_s, gN_s, gT_s, gsC_s, gsN_s, notD_s, ixE_t0, ixE_t1, ixE_t2, ixE_l0, ixE_l1, ixE_l2, ixE_l3, ixE_l4, List.set_cons_zero, List.set_cons_succ, List.nil_append, List.cons_append, List.append_nil, wipeS, e0, e1, hp, hmu]
      rfl⟩
    rw [List.filter_eq_self.mpr fun _ _ => rfl] at hlc
    have ee : rows.map (fun r => rD (r.1, r.2 * 10 ^ (20 : Int).toNat)) = (rows.map fun r => ((r.1, r.2 * 10 ^ (20 : Int).toNat) : Row)).map rD := by rw [List.map_map]; rfl
    rw [ee] at hlc
    simp only [dDef_s, sSeq_s, sIf_s, sSet_s, sRet_s, sFor_s, sNx_s, thenO_nx, thenO_rt, condO_t, condO_f, setO_ok, retO_ok, forO_ok, eN_s, getS_0, getS_s, eC_s, e1_s, e2_s, aN_s, aC_s, eTup_s, eLst_s, tupO_0, tupO_1, tupO_2, tupO_3, tupO_4, lstO_0, lstO_1, lstO_2, lstO_3, lstO_4, eCall_s, eMake_s, eMeth_s, tVal_s, bvO_s, tAndD_s, tOrD_s, andO_t, andO_f, orO_t, orO_f, tNotD_s, tSt_s, strict_ok, eAnd_s, eandO_t, eandO_f, eOr_s, eorO_t, eorO_f, eIf_s, eifO_t, eifO_f, iRng1_s, iRng2_s, iEnum_s, enumD_s, iSeq_s, seqD_l, seqD_t, iOwn_s, iKeysD_s, keysD_s, eGet_s, getO_s, sMut_s, mutO_s, sPut_s, putO_s, addD_s, subD_s, ltD_s, leD_s, gtD_s, geD_s, eqD_ii, neD_ii, intD_s, lenD_l, lenD_t, lenD_s, negD_s, isND_n, isND_i, notND_n, notND_i, bind_o, outD_rt, absD_s, gN_s, gT_s, gsC_s, gsN_s, notD_s, ixE_t0, ixE_t1, ixE_t2, ixE_l0, ixE_l1, ixE_l2, ixE_l3, ixE_l4, List.set_cons_zero, List.set_cons_succ, List.nil_append, List.cons_append, List.append_nil, decide_eq_true h3, hlc]
    exact K5_ok _ (by rw [List.length_map]; exact hz) _ _ _ _ a b c d e
  · simp only [dDef_s, sSeq_s, sIf_s, sSet_s, sRet_s, sFor_s, sNx_s, thenO_nx, thenO_rt, condO_t, condO_f, setO_ok, retO_ok, forO_ok, eN_s, getS_0, getS_s, eC_s, e1_s, e2_s, aN_s, aC_s, eTup_s, eLst_s, tupO_0, tupO_1, tupO_2, tupO_3, tupO_4, lstO_0, lstO_1, lstO_2, lstO_3, lstO_4, eCall_s, eMake_s, eMeth_s, tVal_s, bvO_s, tAndD_s, tOrD_s, andO_t, andO_f, orO_t, orO_f, tNotD_s, tSt_s, strict_ok, eAnd_s, eandO_t, eandO_f, eOr_s, eorO_t, eorO_f, eIf_s, eifO_t, eifO_f, iRng1_s, iRng2_s, iEnum_s, enumD_s, iSeq_s, seqD_l, seqD_t, iOwn_s, iKeysD_s, keysD_s, eGet_s, getO_s, sMut_s, mutO_s, sPut_s, putO_s, addD_s, subD_s, ltD_s, leD_s, gtD_s, geD_s, eqD_ii, neD_ii, intD_s, lenD_l, lenD_t, lenD_s, negD_s, isND_n, isND_i, notND_n, notND_i, bind_o, outD_rt, absD_s, gN_s, gT_s, gsC_s, gsN_s, notD_s, ixE_t0, ixE_t1, ixE_t2, ixE_l0, ixE_l1, ixE_l2, ixE_l3, ixE_l4, List.set_cons_zero, List.set_cons_succ, List.nil_append, List.cons_append, List.append_nil, decide_eq_false h3]
    exact K5_ok rows hz _ _ _ _ a b c d e
end Law
namespace Law
open PySem L2 VS
def top (i : Nat) : Stmt := PySem.Challenge.pw_anyhashes_k77_plain_groups.main.body.getD i (.Pass ⟨0, 0, 0, 0⟩)
abbrev s_law_draws : Stmt := top 12
abbrev N_law_draws : List Str := ["_law_script", "_law_at", "_law_many", "_law_number", "_law_big", "_law_found", "_law_k", "_law_draw", "_law_mixed"]
theorem sc_law_draws : FnScope N_law_draws ["_law_script", "_law_at", "_law_many"] (defScope s_law_draws) := ⟨rfl, rfl, rfl, by decide +kernel, rfl, by decide +kernel, by decide +kernel⟩
abbrev s_law_rows : Stmt := top 13
abbrev N_law_rows : List Str := ["_law_script", "_law_first", "_law_many", "_law_spread", "_law_step", "_law_rows_here", "_law_k", "_law_draws_here", "_law_key"]
theorem sc_law_rows : FnScope N_law_rows ["_law_script", "_law_first", "_law_many", "_law_spread", "_law_step"] (defScope s_law_rows) := ⟨rfl, rfl, rfl, by decide +kernel, rfl, by decide +kernel, by decide +kernel⟩
abbrev s_is_integer : Stmt := top 8
abbrev N_is_integer : List Str := ["thing"]
theorem sc_is_integer : FnScope N_is_integer ["thing"] (defScope s_is_integer) := ⟨rfl, rfl, rfl, by decide +kernel, rfl, by decide +kernel, by decide +kernel⟩
abbrev s_is_row : Stmt := top 9
abbrev N_is_row : List Str := ["thing"]
theorem sc_is_row : FnScope N_is_row ["thing"] (defScope s_is_row) := ⟨rfl, rfl, rfl, by decide +kernel, rfl, by decide +kernel, by decide +kernel⟩
abbrev s_Table___init__ : Stmt := inClass (top 10) 0
abbrev N_Table___init__ : List Str := ["self", "rows", "found", "number", "row"]
theorem sc_Table___init__ : FnScope N_Table___init__ ["self", "rows"] (defScope s_Table___init__) := ⟨rfl, rfl, rfl, by decide +kernel, rfl, by decide +kernel, by decide +kernel⟩
abbrev s_plain_groups : Stmt := top 2
abbrev N_plain_groups : List Str := ["table", "sums", "key", "worth", "before", "keys"]
theorem sc_plain_groups : FnScope N_plain_groups ["table"] (defScope s_plain_groups) := ⟨rfl, rfl, rfl, by decide +kernel, rfl, by decide +kernel, by decide +kernel⟩
abbrev s_law_is_tuples : Stmt := top 14
abbrev N_law_is_tuples : List Str := ["_law_told", "_law_due", "_law_k", "_law_place", "_law_number"]
theorem sc_law_is_tuples : FnScope N_law_is_tuples ["_law_told", "_law_due"] (defScope s_law_is_tuples) := ⟨rfl, rfl, rfl, by decide +kernel, rfl, by decide +kernel, by decide +kernel⟩
abbrev s_Table_entries : Stmt := inClass (top 10) 6
abbrev N_Table_entries : List Str := ["self", "found", "number", "row"]
theorem sc_Table_entries : FnScope N_Table_entries ["self"] (defScope s_Table_entries) := ⟨rfl, rfl, rfl, by decide +kernel, rfl, by decide +kernel, by decide +kernel⟩
abbrev s_group_depth_bounds : Stmt := top 3
abbrev N_group_depth_bounds : List Str := ["table", "room", "keys", "key", "_", "rank"]
theorem sc_group_depth_bounds : FnScope N_group_depth_bounds ["table", "room"] (defScope s_group_depth_bounds) := ⟨rfl, rfl, rfl, by decide +kernel, rfl, by decide +kernel, by decide +kernel⟩
abbrev s_Table___len__ : Stmt := inClass (top 10) 1
abbrev N_Table___len__ : List Str := ["self"]
theorem sc_Table___len__ : FnScope N_Table___len__ ["self"] (defScope s_Table___len__) := ⟨rfl, rfl, rfl, by decide +kernel, rfl, by decide +kernel, by decide +kernel⟩
abbrev s_law : Stmt := top 15
abbrev N_law : List Str := ["_law_script", "_law_shape", "_law_spread", "_law_step", "_law_rows_here", "_law_row", "_law_room", "_law_keys", "_law_due", "_law_key", "_law_worths", "_law_lone", "_law_table", "_law_told", "_law_bounds", "_law_k", "_law_depths"]
theorem sc_law : FnScope N_law ["_law_script"] (defScope s_law) := ⟨rfl, rfl, rfl, by decide +kernel, rfl, by decide +kernel, by decide +kernel⟩
abbrev s_Table___iter__ : Stmt := inClass (top 10) 3
abbrev N_Table___iter__ : List Str := ["self"]
theorem sc_Table___iter__ : FnScope N_Table___iter__ ["self"] (defScope s_Table___iter__) := ⟨rfl, rfl, rfl, by decide +kernel, rfl, by decide +kernel, by decide +kernel⟩
structure Ad where
  f_law_draws : Addr
  d_law_draws : FuncData
  f_law_rows : Addr
  d_law_rows : FuncData
  f_is_integer : Addr
  d_is_integer : FuncData
  f_is_row : Addr
  d_is_row : FuncData
  f_Table___init__ : Addr
  d_Table___init__ : FuncData
  f_plain_groups : Addr
  d_plain_groups : FuncData
  f_law_is_tuples : Addr
  d_law_is_tuples : FuncData
  f_Table_entries : Addr
  d_Table_entries : FuncData
  f_group_depth_bounds : Addr
  d_group_depth_bounds : FuncData
  f_Table___len__ : Addr
  d_Table___len__ : FuncData
  f_law : Addr
  d_law : FuncData
  f_Table___iter__ : Addr
  d_Table___iter__ : FuncData
  c_Table : Addr
def clOf (P : Program) (w : World) (A : Ad) : VS.Ctx := ⟨P, w, fun c => if c = "Table" then some A.c_Table else none⟩
structure Txt (K : PySem.W.Frag) (mg : Str → Option Value) (A : Ad) : Prop where
  b_abs : mg "abs" = none
  b_bool : mg "bool" = none
  b_enumerate : mg "enumerate" = none
  b_int : mg "int" = none
  b_isinstance : mg "isinstance" = none
  b_iter : mg "iter" = none
  b_len : mg "len" = none
  b_list : mg "list" = none
  b_range : mg "range" = none
  b_sorted : mg "sorted" = none
  b_sum : mg "sum" = none
  b_tuple : mg "tuple" = none
  f_law_draws : Fun K "_law_draws" "_law_draws" s_law_draws A.f_law_draws A.d_law_draws
  bd_law_draws : L2.Binds K A.d_law_draws ["_law_script", "_law_at", "_law_many"] []
  g_law_draws : mg "_law_draws" = some (.ref A.f_law_draws)
  k_law_draws : PySem.W.keepIn K (.ref A.f_law_draws) = true
  f_law_rows : Fun K "_law_rows" "_law_rows" s_law_rows A.f_law_rows A.d_law_rows
  bd_law_rows : L2.Binds K A.d_law_rows ["_law_script", "_law_first", "_law_many", "_law_spread", "_law_step"] []
  g_law_rows : mg "_law_rows" = some (.ref A.f_law_rows)
  k_law_rows : PySem.W.keepIn K (.ref A.f_law_rows) = true
  f_is_integer : Fun K "is_integer" "is_integer" s_is_integer A.f_is_integer A.d_is_integer
  bd_is_integer : L2.Binds K A.d_is_integer ["thing"] []
  g_is_integer : mg "is_integer" = some (.ref A.f_is_integer)
  k_is_integer : PySem.W.keepIn K (.ref A.f_is_integer) = true
  f_is_row : Fun K "is_row" "is_row" s_is_row A.f_is_row A.d_is_row
  bd_is_row : L2.Binds K A.d_is_row ["thing"] []
  g_is_row : mg "is_row" = some (.ref A.f_is_row)
  k_is_row : PySem.W.keepIn K (.ref A.f_is_row) = true
  f_Table___init__ : Fun K "__init__" "Table.__init__" s_Table___init__ A.f_Table___init__ A.d_Table___init__
  bd_Table___init__ : L2.Binds K A.d_Table___init__ ["self", "rows"] []
  f_plain_groups : Fun K "plain_groups" "plain_groups" s_plain_groups A.f_plain_groups A.d_plain_groups
  bd_plain_groups : L2.Binds K A.d_plain_groups ["table"] []
  g_plain_groups : mg "plain_groups" = some (.ref A.f_plain_groups)
  k_plain_groups : PySem.W.keepIn K (.ref A.f_plain_groups) = true
  f_law_is_tuples : Fun K "_law_is_tuples" "_law_is_tuples" s_law_is_tuples A.f_law_is_tuples A.d_law_is_tuples
  bd_law_is_tuples : L2.Binds K A.d_law_is_tuples ["_law_told", "_law_due"] []
  g_law_is_tuples : mg "_law_is_tuples" = some (.ref A.f_law_is_tuples)
  k_law_is_tuples : PySem.W.keepIn K (.ref A.f_law_is_tuples) = true
  f_Table_entries : Fun K "entries" "Table.entries" s_Table_entries A.f_Table_entries A.d_Table_entries
  bd_Table_entries : L2.Binds K A.d_Table_entries ["self"] []
  f_group_depth_bounds : Fun K "group_depth_bounds" "group_depth_bounds" s_group_depth_bounds A.f_group_depth_bounds A.d_group_depth_bounds
  bd_group_depth_bounds : L2.Binds K A.d_group_depth_bounds ["table", "room"] []
  g_group_depth_bounds : mg "group_depth_bounds" = some (.ref A.f_group_depth_bounds)
  k_group_depth_bounds : PySem.W.keepIn K (.ref A.f_group_depth_bounds) = true
  f_Table___len__ : Fun K "__len__" "Table.__len__" s_Table___len__ A.f_Table___len__ A.d_Table___len__
  bd_Table___len__ : L2.Binds K A.d_Table___len__ ["self"] []
  f_law : Fun K "law" "law" s_law A.f_law A.d_law
  bd_law : L2.Binds K A.d_law ["_law_script"] []
  g_law : mg "law" = some (.ref A.f_law)
  k_law : PySem.W.keepIn K (.ref A.f_law) = true
  f_Table___iter__ : Fun K "__iter__" "Table.__iter__" s_Table___iter__ A.f_Table___iter__ A.d_Table___iter__
  bd_Table___iter__ : L2.Binds K A.d_Table___iter__ ["self"] []
  g_Table : mg "Table" = some (.ref A.c_Table)
  c_Table : Cls K A.c_Table
  n_Table_rows : NoAttr K A.c_Table (Str.ofString "_rows")
  mk_Table : Mk K A.c_Table A.f_Table___init__
  m_Table___len__ : Meth K A.c_Table (Str.ofString "__len__") A.f_Table___len__
  m_Table_entries : Meth K A.c_Table (Str.ofString "entries") A.f_Table_entries
  it_Table : IterDef K mg A.c_Table A.f_Table___iter__ "_rows"
section
variable {K : PySem.W.Frag} {mg : Str → Option Value} {A : Ad}
theorem Txt.cl_Table {P : Program} {w : World} (_ : Txt K mg A) : (clOf P w A) "Table" = some A.c_Table := by unfold clOf; simp
end
section
variable {P : Program} {w : World} {K : PySem.W.Frag} {mg : Str → Option Value} {base : Heap} {A : Ad}
theorem ok_law_draws (T : Txt K mg A) : FnOk P w K mg base (L2.CX P w) 1 A.f_law_draws A.d_law_draws ["_law_script", "_law_at", "_law_many"] (spV K (clOf P w A) 3 F_law_draws) :=
  fn_v (O' := []) T.f_law_draws sc_law_draws (fun cdv Ar outer s H E F0 hr => (vss_cons (w_set (O' := []) sc_law_draws.nd ve_int) (vss_cons (vs_if (O' := []) (vt_cmp og_lt nox_lt (vb_name 1) (VE.vb (ve_cb1 (id := "len") cg_len nox_len T.b_len (by decide +kernel) (vb_name 0)))) (vss_one (w_set (O' := []) sc_law_draws.nd (ve_cb1 (id := "abs") cg_abs nox_abs T.b_abs (by decide +kernel) (VE.vb (ve_ix (ig_ixE rfl rfl) nox_ixE (vb_name 0) (vb_name 1)))))) vss_nil) (vss_cons (w_set (O' := []) sc_law_draws.nd (ve_cmp og_ge nox_ge (vb_name 3) (VE.vb (ve_bin og_pow nox_pow (VE.vb ve_int) (VE.vb ve_int))))) (vss_cons (w_setO (O' := [5]) sc_law_draws.nd (vo_lst va_nil)) (vss_cons (vs_for (O := [5]) (passes_of rfl) rfl (w_range1 T.b_range (va_cons (ve_name 2) va_nil)) (vg_name 6 sc_law_draws.nd) (vss_cons (w_set (O' := [5]) sc_law_draws.nd ve_int) (vss_cons (vs_if (O' := [5]) (vt_val (ve_name 4)) (vss_cons (w_set (O' := [5]) sc_law_draws.nd (ve_bin og_mod nox_mod (VE.vb (ve_cty1 (T := "int") cg_int nox_int T.b_int (by decide +kernel) (vb_name 3))) (VE.vb ve_int))) (vss_one (w_set (O' := [5]) sc_law_draws.nd (ve_bin og_fdiv nox_fdiv (vb_name 3) (VE.vb ve_int))))) (vss_one (vs_if (O' := [5]) (vt_cmp og_gt nox_gt (vb_name 3) (VE.vb ve_int)) (vss_cons (w_set (O' := [5]) sc_law_draws.nd (ve_bin og_mod nox_mod (VE.vb (ve_cty1 (T := "int") cg_int nox_int T.b_int (by decide +kernel) (VE.vb (ve_bin og_add nox_add (VE.vb (ve_bin og_mul nox_mul (vb_name 3) (VE.vb (ve_bin og_add nox_add (VE.vb ve_int) (VE.vb (ve_bin og_mul nox_mul (VE.vb ve_int) (vb_name 6))))))) (VE.vb (ve_bin og_mul nox_mul (VE.vb ve_int) (vb_name 6))))))) (VE.vb ve_int))) (vss_cons (w_set (O' := [5]) sc_law_draws.nd (ve_bin og_mod nox_mod (VE.vb (ve_cty1 (T := "int") cg_int nox_int T.b_int (by decide +kernel) (VE.vb (ve_bin og_add nox_add (VE.vb (ve_bin og_add nox_add (VE.vb (ve_bin og_mul nox_mul (vb_name 8) (vb_name 8))) (VE.vb (ve_bin og_mul nox_mul (VE.vb ve_int) (vb_name 6))))) (VE.vb ve_int))))) (VE.vb ve_int))) (vss_one (w_set (O' := [5]) sc_law_draws.nd (ve_bin og_mod nox_mod (VE.vb (ve_cty1 (T := "int") cg_int nox_int T.b_int (by decide +kernel) (vb_name 8))) (VE.vb ve_int)))))) vss_nil))) (vss_one (w_append 5 (va_cons (ve_name 7) va_nil)))))) (ws_frz (O1 := []) 5 (vss_one (vs_ret (ve_name 5))))))))))
theorem ok_law_rows (T : Txt K mg A) : FnOk P w K mg base (L2.CX P w) 2 A.f_law_rows A.d_law_rows ["_law_script", "_law_first", "_law_many", "_law_spread", "_law_step"] (spV K (clOf P w A) 5 F_law_rows) :=
  fn_v (O' := []) T.f_law_rows sc_law_rows (fun cdv Ar outer s H E F0 hr => (vss_cons (w_setO (O' := [5]) sc_law_rows.nd (vo_lst va_nil)) (vss_cons (vs_for (O := [5]) (passes_of rfl) rfl (w_range1 T.b_range (va_cons (ve_name 2) va_nil)) (vg_name 6 sc_law_rows.nd) (vss_cons (w_set (O' := [5]) sc_law_rows.nd (w_call (takes_of rfl rfl rfl rfl) (ok_law_draws T) (hr.mono (by decide)) T.g_law_draws T.k_law_draws T.bd_law_draws (va_cons (ve_name 0) (va_cons (ve_bin og_add nox_add (vb_name 1) (vb_name 6)) (va_cons ve_int va_nil))) (alen_cons (alen_cons (alen_cons alen_nil))))) (vss_cons (w_set (O' := [5]) sc_law_rows.nd (ve_bin og_mul nox_mul (VE.vb (ve_bin og_sub nox_sub (VE.vb (ve_bin og_mod nox_mod (VE.vb (ve_cty1 (T := "int") cg_int nox_int T.b_int (by decide +kernel) (VE.vb (ve_ix (ig_ixE rfl rfl) nox_ixE (vb_name 7) (VE.vb ve_int))))) (vb_name 3))) (VE.vb (ve_bin og_fdiv nox_fdiv (vb_name 3) (VE.vb ve_int))))) (vb_name 4))) (vss_cons (vs_if (O' := [5]) (vt_cmp (og_eq hr.units) nox_eq (VE.vb (ve_bin og_mod nox_mod (VE.vb (ve_cty1 (T := "int") cg_int nox_int T.b_int (by decide +kernel) (VE.vb (ve_ix (ig_ixE rfl rfl) nox_ixE (vb_name 7) (VE.vb ve_int))))) (VE.vb ve_int))) (VE.vb ve_int)) (vss_one (w_set (O' := [5]) sc_law_rows.nd ve_non)) vss_nil) (vss_one (w_append 5 (va_cons (ve_tup (va_cons (ve_name 8) (va_cons (ve_bin og_sub nox_sub (VE.vb (ve_ix (ig_ixE rfl rfl) nox_ixE (vb_name 7) (VE.vb ve_int))) (VE.vb ve_int)) va_nil))) va_nil))))))) (ws_frz (O1 := []) 5 (vss_one (vs_ret (ve_name 5)))))))
theorem ok_is_integer (T : Txt K mg A) : FnOk P w K mg base (L2.CX P w) 1 A.f_is_integer A.d_is_integer ["thing"] (spV K (clOf P w A) 1 F_is_integer) :=
  fn_v (O' := []) T.f_is_integer sc_is_integer (fun cdv Ar outer s H E F0 hr => (vss_one (vs_ret (ve_and (ve_isi1 (tn := "int") T.b_isinstance (vb_name 0) T.b_int (by decide +kernel) (by decide) (pe_bltn (by rfl) T.b_int (by decide +kernel) rfl)) (ve_one (ve_not (ve_isi1 (tn := "bool") T.b_isinstance (vb_name 0) T.b_bool (by decide +kernel) (by decide) (pe_bltn (by rfl) T.b_bool (by decide +kernel) rfl))) _)))))
theorem ok_is_row (T : Txt K mg A) : FnOk P w K mg base (L2.CX P w) 2 A.f_is_row A.d_is_row ["thing"] (spV K (clOf P w A) 1 F_is_row) :=
  fn_v (O' := []) T.f_is_row sc_is_row (fun cdv Ar outer s H E F0 hr => (vss_cons (vs_if (O' := []) (vt_w (vw_or (vt_not (vt_val (ve_isi2 (tn := "list") (un := "tuple") T.b_isinstance (vb_name 0) (by decide) (by decide) (pe_bltn (by rfl) T.b_list (by decide +kernel) rfl) (pe_bltn (by rfl) T.b_tuple (by decide +kernel) rfl)))) (vw_or1 (vt_cmp (og_ne hr.units) nox_ne (VE.vb (ve_cb1 (id := "len") cg_len nox_len T.b_len (by decide +kernel) (vb_name 0))) (VE.vb ve_int))))) (vss_one (vs_ret ve_bl)) vss_nil) (vss_cons (vs_if (O' := []) (vt_w (vw_and (vt_cmp og_notN nox_notN (VE.vb (ve_ix (ig_ixE rfl rfl) nox_ixE (vb_name 0) (VE.vb ve_int))) (VE.vb ve_non)) (vw_and1 (vt_not (vt_val (w_call (takes_of rfl rfl rfl rfl) (ok_is_integer T) (hr.mono (by decide)) T.g_is_integer T.k_is_integer T.bd_is_integer (va_cons (ve_ix (ig_ixE rfl rfl) nox_ixE (vb_name 0) (VE.vb ve_int)) va_nil) (alen_cons alen_nil))))))) (vss_one (vs_ret ve_bl)) vss_nil) (vss_one (vs_ret (w_call (takes_of rfl rfl rfl rfl) (ok_is_integer T) (hr.mono (by decide)) T.g_is_integer T.k_is_integer T.bd_is_integer (va_cons (ve_ix (ig_ixE rfl rfl) nox_ixE (vb_name 0) (VE.vb ve_int)) va_nil) (alen_cons alen_nil)))))))
theorem ok_Table___init__ (T : Txt K mg A) : FnOk P w K mg base (L2.CX P w) 3 A.f_Table___init__ A.d_Table___init__ ["self", "rows"] (spI K (clOf P w A) A.c_Table 2 F_Table___init__) :=
  fn_i (O' := [0]) (c := "Table") rfl T.f_Table___init__ sc_Table___init__ (by decide) (fun cdv Ar outer s H E F0 x hr => (vss_cons (w_setO (O' := [2, 0]) sc_Table___init__.nd (vo_lst va_nil)) (vss_cons (vs_for (O := [2, 0]) (passes_of rfl) rfl (w_enum T.b_enumerate (va_cons (ve_name 1) va_nil)) (vg_tup rfl (vgs_cons (vg_name 3 sc_Table___init__.nd) (vgs_cons (vg_name 4 sc_Table___init__.nd) vgs_nil))) (vss_cons (vs_if (O' := [2, 0]) (vt_not (vt_val (w_call (takes_of rfl rfl rfl rfl) (ok_is_row T) (hr.mono (by decide)) T.g_is_row T.k_is_row T.bd_is_row (va_cons (ve_name 4) va_nil) (alen_cons alen_nil)))) (vss_one vs_never) vss_nil) (vss_one (w_append 2 (va_cons (ve_tup (va_cons (ve_ix (ig_ixE rfl rfl) nox_ixE (vb_name 4) (VE.vb ve_int)) (va_cons (ve_ix (ig_ixE rfl rfl) nox_ixE (vb_name 4) (VE.vb ve_int)) va_nil))) va_nil))))) (ws_frz (O1 := [0]) 2 (vss_one (vs_fld 0 (fn := "_rows") (c := "Table") T.cl_Table T.c_Table T.n_Table_rows (ve_name 2)))))))
theorem ok_plain_groups (T : Txt K mg A) : FnOk P w K mg base (L2.CX P w) 3 A.f_plain_groups A.d_plain_groups ["table"] (spO K (clOf P w A) 1 F_plain_groups) :=
  fn_o (O' := []) T.f_plain_groups sc_plain_groups (by repeat first | exact noNx_ret _ | exact noNx_bad | refine noNx_seq ?_ | refine noNx_if ?_ ?_) (fun cdv Ar outer s H E F0 hr => (vss_cons (w_setO (O' := [1]) sc_plain_groups.nd (vo_dict0 rfl rfl)) (vss_cons (vs_for (O := [1]) (passes_of rfl) rfl (vi_own (fn := "_rows") (c := "Table") T.it_Table T.cl_Table (hr.mono (by decide)) (ve_name 0)) (vg_tup rfl (vgs_cons (vg_name 2 sc_plain_groups.nd) (vgs_cons (vg_name 3 sc_plain_groups.nd) vgs_nil))) (vss_cons (w_set (O' := [1]) sc_plain_groups.nd (ve_get2 (vb_name 1) (ve_name 2) (ve_tup (va_cons ve_int (va_cons ve_int va_nil))) rfl rfl)) (vss_one (vs_put 1 (ve_tup (va_cons (ve_bin og_add nox_add (VE.vb (ve_ix (ig_ixE rfl rfl) nox_ixE (vb_name 4) (VE.vb ve_int))) (VE.vb ve_int)) (va_cons (ve_bin og_add nox_add (VE.vb (ve_ix (ig_ixE rfl rfl) nox_ixE (vb_name 4) (VE.vb ve_int))) (vb_name 3)) va_nil))) (ve_name 2) (by decide) rfl rfl)))) (ws_frz (O1 := []) 1 (vss_cons (w_setO (O' := [5]) sc_plain_groups.nd (vo_cb1 (id := "sorted") (cg_sorted hr.units) nox_sort T.b_sorted (by decide +kernel) (VO.vb (vo_lc (own := [("key", 2)]) rfl sc_plain_groups.nd (vi_keys (ve_name 1) rfl rfl) (blkOk_by (own := [("key", 2)]) (N := N_plain_groups) (sc := defScope s_plain_groups) (by decide +kernel)) (fun _ _ _ _ _ => (vg_name 2 sc_plain_groups.nd)) (fun _ _ _ _ _ => (vts_one (vt_cmp og_notN nox_notN (vb_name 2) (VE.vb ve_non)))) (fun _ _ _ _ _ => (ve_name 2)))))) (vss_cons (vs_if (O' := [5]) (vt_cmp (og_mem rfl rfl) nox_mem (VE.vb ve_non) (vb_name 1)) (vss_one (w_append 5 (va_cons ve_non va_nil))) vss_nil) (ws_frz (O1 := []) 5 (vss_one (vs_retO (vo_lc (own := [("key", 2)]) rfl sc_plain_groups.nd (vi_seq (ve_name 5)) (blkOk_by (own := [("key", 2)]) (N := N_plain_groups) (sc := defScope s_plain_groups) (by decide +kernel)) (fun _ _ _ _ _ => (vg_name 2 sc_plain_groups.nd)) (fun _ _ _ _ _ => vts_nil) (fun _ _ _ _ _ => (ve_tup (va_cons (ve_name 2) (va_cons (ve_ix (ig_ixE rfl rfl) nox_ixE (VE.vb (ve_ix (ig_ixE rfl rfl) nox_ixE (vb_name 1) (vb_name 2))) (VE.vb ve_int)) (va_cons (ve_ix (ig_ixE rfl rfl) nox_ixE (VE.vb (ve_ix (ig_ixE rfl rfl) nox_ixE (vb_name 1) (vb_name 2))) (VE.vb ve_int)) va_nil)))))))))))))))
theorem ok_law_is_tuples (T : Txt K mg A) : FnOk P w K mg base (L2.CX P w) 1 A.f_law_is_tuples A.d_law_is_tuples ["_law_told", "_law_due"] (spV K (clOf P w A) 2 F_law_is_tuples) :=
  fn_v (O' := []) T.f_law_is_tuples sc_law_is_tuples (fun cdv Ar outer s H E F0 hr => (vss_cons (vs_if (O' := []) (vt_w (vw_or (vt_not (vt_val (ve_isi1 (tn := "list") T.b_isinstance (vb_name 0) T.b_list (by decide +kernel) (by decide) (pe_bltn (by rfl) T.b_list (by decide +kernel) rfl)))) (vw_or1 (vt_cmp (og_ne hr.units) nox_ne (VE.vb (ve_cb1 (id := "len") cg_len nox_len T.b_len (by decide +kernel) (vb_name 0))) (VE.vb (ve_cb1 (id := "len") cg_len nox_len T.b_len (by decide +kernel) (vb_name 1))))))) (vss_one (vs_ret ve_bl)) vss_nil) (vss_cons (vs_for (O := []) (passes_of rfl) rfl (w_range1 T.b_range (va_cons (ve_cb1 (id := "len") cg_len nox_len T.b_len (by decide +kernel) (vb_name 1)) va_nil)) (vg_name 2 sc_law_is_tuples.nd) (vss_cons (vs_if (O' := []) (vt_w (vw_or (vt_not (vt_val (ve_isi1 (tn := "tuple") T.b_isinstance (VE.vb (ve_ix (ig_ixE rfl rfl) nox_ixE (vb_name 0) (vb_name 2))) T.b_tuple (by decide +kernel) (by decide) (pe_bltn (by rfl) T.b_tuple (by decide +kernel) rfl)))) (vw_or1 (vt_cmp (og_ne hr.units) nox_ne (VE.vb (ve_cb1 (id := "len") cg_len nox_len T.b_len (by decide +kernel) (VE.vb (ve_ix (ig_ixE rfl rfl) nox_ixE (vb_name 0) (vb_name 2))))) (VE.vb (ve_cb1 (id := "len") cg_len nox_len T.b_len (by decide +kernel) (VE.vb (ve_ix (ig_ixE rfl rfl) nox_ixE (vb_name 1) (vb_name 2))))))))) (vss_one (vs_ret ve_bl)) vss_nil) (vss_one (vs_for (O := []) (passes_of rfl) rfl (w_range1 T.b_range (va_cons (ve_cb1 (id := "len") cg_len nox_len T.b_len (by decide +kernel) (VE.vb (ve_ix (ig_ixE rfl rfl) nox_ixE (vb_name 1) (vb_name 2)))) va_nil)) (vg_name 3 sc_law_is_tuples.nd) (vss_cons (w_set (O' := []) sc_law_is_tuples.nd (ve_ix (ig_ixE rfl rfl) nox_ixE (VE.vb (ve_ix (ig_ixE rfl rfl) nox_ixE (vb_name 0) (vb_name 2))) (vb_name 3))) (vss_one (vs_if (O' := []) (vt_w (vw_and (vt_cmp og_notN nox_notN (vb_name 4) (VE.vb ve_non)) (vw_and1 (vt_w (vw_or (vt_not (vt_val (ve_isi1 (tn := "int") T.b_isinstance (vb_name 4) T.b_int (by decide +kernel) (by decide) (pe_bltn (by rfl) T.b_int (by decide +kernel) rfl)))) (vw_or1 (vt_val (ve_isi1 (tn := "bool") T.b_isinstance (vb_name 4) T.b_bool (by decide +kernel) (by decide) (pe_bltn (by rfl) T.b_bool (by decide +kernel) rfl))))))))) (vss_one (vs_ret ve_bl)) vss_nil))))))) (vss_one (vs_ret (ve_cmp (og_eq hr.units) nox_eq (vb_name 0) (vb_name 1)))))))
theorem ok_Table_entries (T : Txt K mg A) : FnOk P w K mg base (L2.CX P w) 1 A.f_Table_entries A.d_Table_entries ["self"] (spV K (clOf P w A) 1 F_Table_entries) :=
  fn_v (O' := [1]) T.f_Table_entries sc_Table_entries (fun cdv Ar outer s H E F0 hr => (vss_cons (w_setO (O' := [1]) sc_Table_entries.nd (vo_lst va_nil)) (vss_cons (vs_for (O := [1]) (passes_of rfl) rfl (w_enum T.b_enumerate (va_cons (ve_fld (fn := "_rows") (c := "Table") T.cl_Table T.c_Table T.n_Table_rows (vb_name 0)) va_nil)) (vg_tup rfl (vgs_cons (vg_name 2 sc_Table_entries.nd) (vgs_cons (vg_name 3 sc_Table_entries.nd) vgs_nil))) (vss_one (vs_if (O' := [1]) (vt_cmp og_notN nox_notN (VE.vb (ve_ix (ig_ixE rfl rfl) nox_ixE (vb_name 3) (VE.vb ve_int))) (VE.vb ve_non)) (vss_one (w_append 1 (va_cons (ve_tup (va_cons (ve_ix (ig_ixE rfl rfl) nox_ixE (vb_name 3) (VE.vb ve_int)) (va_cons (ve_name 2) va_nil))) va_nil))) vss_nil))) (vss_one (vs_ret (VO.ve (vo_cb1 (id := "sorted") (cg_sorted hr.units) nox_sort T.b_sorted (by decide +kernel) (vb_name 1))))))))
theorem ok_group_depth_bounds (T : Txt K mg A) : FnOk P w K mg base (L2.CX P w) 2 A.f_group_depth_bounds A.d_group_depth_bounds ["table", "room"] (spO K (clOf P w A) 2 F_group_depth_bounds) :=
  fn_o (O' := []) T.f_group_depth_bounds sc_group_depth_bounds (by repeat first | exact noNx_ret _ | exact noNx_bad | refine noNx_seq ?_ | refine noNx_if ?_ ?_) (fun cdv Ar outer s H E F0 hr => (vss_cons (w_set (O' := []) sc_group_depth_bounds.nd (VO.ve (vo_sortSet (own := [("key", 3), ("_", 4)]) rfl sc_group_depth_bounds.nd T.b_sorted (vi_seq (w_meth0 (c := "Table") (mn := "entries") rfl (takes_of rfl rfl rfl rfl) T.cl_Table T.c_Table T.m_Table_entries (ok_Table_entries T) (hr.mono (by decide)) T.bd_Table_entries (ve_name 0))) (blkOk_by (own := [("key", 3), ("_", 4)]) (N := N_group_depth_bounds) (sc := defScope s_group_depth_bounds) (by decide +kernel)) (fun _ _ _ _ _ => (vg_tup rfl (vgs_cons (vg_name 3 sc_group_depth_bounds.nd) (vgs_cons (vg_name 4 sc_group_depth_bounds.nd) vgs_nil)))) (fun _ _ _ _ _ => vts_nil) (fun _ _ _ _ _ => (ve_name 3))))) (vss_one (vs_retO (vo_lc (own := [("rank", 5), ("key", 3)]) rfl sc_group_depth_bounds.nd (w_enum T.b_enumerate (va_cons (ve_name 2) va_nil)) (blkOk_by (own := [("rank", 5), ("key", 3)]) (N := N_group_depth_bounds) (sc := defScope s_group_depth_bounds) (by decide +kernel)) (fun _ _ _ _ _ => (vg_tup rfl (vgs_cons (vg_name 5 sc_group_depth_bounds.nd) (vgs_cons (vg_name 3 sc_group_depth_bounds.nd) vgs_nil)))) (fun _ _ _ _ _ => vts_nil) (fun _ _ _ _ _ => (ve_tup (va_cons (ve_name 3) (va_cons (ve_bin og_fdiv nox_fdiv (vb_name 5) (vb_name 1)) va_nil)))))))))
theorem ok_Table___len__ (T : Txt K mg A) : FnOk P w K mg base (L2.CX P w) 1 A.f_Table___len__ A.d_Table___len__ ["self"] (spV K (clOf P w A) 1 F_Table___len__) :=
  fn_v (O' := []) T.f_Table___len__ sc_Table___len__ (fun cdv Ar outer s H E F0 hr => (vss_one (vs_ret (ve_cb1 (id := "len") cg_len nox_len T.b_len (by decide +kernel) (VE.vb (ve_fld (fn := "_rows") (c := "Table") T.cl_Table T.c_Table T.n_Table_rows (vb_name 0)))))))
theorem ok_law (T : Txt K mg A) : FnOk P w K mg base (L2.CX P w) 7 A.f_law A.d_law ["_law_script"] (spV K (clOf P w A) 1 F_law) :=
  fn_v (O' := [16, 13]) T.f_law sc_law (fun cdv Ar outer s H E F0 hr => (vss_cons (w_set (O' := []) sc_law.nd (w_call (takes_of rfl rfl rfl rfl) (ok_law_draws T) (hr.mono (by decide)) T.g_law_draws T.k_law_draws T.bd_law_draws (va_cons (ve_name 0) (va_cons ve_int (va_cons ve_int va_nil))) (alen_cons (alen_cons (alen_cons alen_nil))))) (vss_cons (w_set (O' := []) sc_law.nd (ve_bin og_add nox_add (VE.vb ve_int) (VE.vb (ve_bin og_mod nox_mod (VE.vb (ve_cty1 (T := "int") cg_int nox_int T.b_int (by decide +kernel) (VE.vb (ve_ix (ig_ixE rfl rfl) nox_ixE (vb_name 1) (VE.vb ve_int))))) (VE.vb ve_int))))) (vss_cons (w_set (O' := []) sc_law.nd (ve_ix (ig_ixE rfl rfl) nox_ixE (VO.vb (vo_lst (va_cons ve_int (va_cons ve_int (va_cons (ve_un ug_neg nox_neg (VE.vb ve_int)) va_nil))))) (VE.vb (ve_bin og_mod nox_mod (VE.vb (ve_cty1 (T := "int") cg_int nox_int T.b_int (by decide +kernel) (VE.vb (ve_ix (ig_ixE rfl rfl) nox_ixE (vb_name 1) (VE.vb ve_int))))) (VE.vb ve_int))))) (vss_cons (w_set (O' := []) sc_law.nd (w_call (takes_of rfl rfl rfl rfl) (ok_law_rows T) (hr.mono (by decide)) T.g_law_rows T.k_law_rows T.bd_law_rows (va_cons (ve_name 0) (va_cons ve_int (va_cons (ve_bin og_mod nox_mod (VE.vb (ve_cty1 (T := "int") cg_int nox_int T.b_int (by decide +kernel) (VE.vb (ve_ix (ig_ixE rfl rfl) nox_ixE (vb_name 1) (VE.vb ve_int))))) (VE.vb ve_int)) (va_cons (ve_name 2) (va_cons (ve_name 3) va_nil))))) (alen_cons (alen_cons (alen_cons (alen_cons (alen_cons alen_nil))))))) (vss_cons (vs_if (O' := []) (vt_cmp (og_eq hr.units) nox_eq (VE.vb (ve_bin og_mod nox_mod (VE.vb (ve_cty1 (T := "int") cg_int nox_int T.b_int (by decide +kernel) (VE.vb (ve_ix (ig_ixE rfl rfl) nox_ixE (vb_name 1) (VE.vb ve_int))))) (VE.vb ve_int))) (VE.vb ve_int)) (vss_one (w_frzB (O' := []) 4 (vs_setLc (own := [("_law_row", 5)]) rfl sc_law.nd (vi_seq (ve_name 4)) (blkOk_by (own := [("_law_row", 5)]) (N := N_law) (sc := defScope s_law) (by decide +kernel)) (fun _ _ _ _ _ => (vg_name 5 sc_law.nd)) (fun _ _ _ _ _ => vts_nil) (fun _ _ _ _ _ => (ve_tup (va_cons (ve_ix (ig_ixE rfl rfl) nox_ixE (vb_name 5) (VE.vb ve_int)) (va_cons (ve_bin og_mul nox_mul (VE.vb (ve_ix (ig_ixE rfl rfl) nox_ixE (vb_name 5) (VE.vb ve_int))) (VE.vb (ve_bin og_pow nox_pow (VE.vb ve_int) (VE.vb ve_int)))) va_nil))))))) vss_nil) (vss_cons (w_set (O' := []) sc_law.nd (ve_bin og_add nox_add (VE.vb ve_int) (VE.vb (ve_bin og_mod nox_mod (VE.vb (ve_cty1 (T := "int") cg_int nox_int T.b_int (by decide +kernel) (VE.vb (ve_ix (ig_ixE rfl rfl) nox_ixE (vb_name 1) (VE.vb ve_int))))) (VE.vb ve_int))))) (vss_cons (w_setO (O' := [7]) sc_law.nd (vo_lst va_nil)) (vss_cons (vs_for (O := [7]) (passes_of rfl) rfl (vi_seq (ve_name 4)) (vg_name 5 sc_law.nd) (vss_one (vs_if (O' := [7]) (vt_w (vw_and (vt_cmp og_notN nox_notN (VE.vb (ve_ix (ig_ixE rfl rfl) nox_ixE (vb_name 5) (VE.vb ve_int))) (VE.vb ve_non)) (vw_and1 (vt_cmp (og_notMem rfl rfl) nox_mem (VE.vb (ve_ix (ig_ixE rfl rfl) nox_ixE (vb_name 5) (VE.vb ve_int))) (vb_name 7))))) (vss_one (w_append 7 (va_cons (ve_ix (ig_ixE rfl rfl) nox_ixE (vb_name 5) (VE.vb ve_int)) va_nil))) vss_nil))) (vss_cons (w_setO (O' := [7]) sc_law.nd (vo_cb1 (id := "sorted") (cg_sorted hr.units) nox_sort T.b_sorted (by decide +kernel) (vb_name 7))) (vss_cons (w_setO (O' := [8, 7]) sc_law.nd (vo_lst va_nil)) (ws_frz (O1 := [8]) 7 (vss_cons (vs_for (O := [8]) (passes_of rfl) rfl (vi_seq (ve_name 7)) (vg_name 9 sc_law.nd) (vss_cons (w_frzB (O' := [8]) 10 (vs_setLc (own := [("_law_row", 5)]) rfl sc_law.nd (vi_seq (ve_name 4)) (blkOk_by (own := [("_law_row", 5)]) (N := N_law) (sc := defScope s_law) (by decide +kernel)) (fun _ _ _ _ _ => (vg_name 5 sc_law.nd)) (fun _ _ _ _ _ => (vts_one (vt_w (vw_and (vt_cmp og_notN nox_notN (VE.vb (ve_ix (ig_ixE rfl rfl) nox_ixE (vb_name 5) (VE.vb ve_int))) (VE.vb ve_non)) (vw_and1 (vt_cmp (og_eq hr.units) nox_eq (VE.vb (ve_ix (ig_ixE rfl rfl) nox_ixE (vb_name 5) (VE.vb ve_int))) (vb_name 9))))))) (fun _ _ _ _ _ => (ve_ix (ig_ixE rfl rfl) nox_ixE (vb_name 5) (VE.vb ve_int))))) (vss_one (w_append 8 (va_cons (ve_tup (va_cons (ve_name 9) (va_cons (ve_cb1 (id := "len") cg_len nox_len T.b_len (by decide +kernel) (vb_name 10)) (va_cons (ve_cb1 (id := "sum") (cg_sum rfl) nox_sum T.b_sum (by decide +kernel) (vb_name 10)) va_nil)))) va_nil))))) (vss_cons (w_frzB (O' := [8]) 11 (vs_setLc (own := [("_law_row", 5)]) rfl sc_law.nd (vi_seq (ve_name 4)) (blkOk_by (own := [("_law_row", 5)]) (N := N_law) (sc := defScope s_law) (by decide +kernel)) (fun _ _ _ _ _ => (vg_name 5 sc_law.nd)) (fun _ _ _ _ _ => (vts_one (vt_cmp og_isN nox_isN (VE.vb (ve_ix (ig_ixE rfl rfl) nox_ixE (vb_name 5) (VE.vb ve_int))) (VE.vb ve_non)))) (fun _ _ _ _ _ => (ve_ix (ig_ixE rfl rfl) nox_ixE (vb_name 5) (VE.vb ve_int))))) (vss_cons (vs_if (O' := [8]) (vt_cmp og_gt nox_gt (VE.vb (ve_cb1 (id := "len") cg_len nox_len T.b_len (by decide +kernel) (vb_name 11))) (VE.vb ve_int)) (vss_one (w_append 8 (va_cons (ve_tup (va_cons ve_non (va_cons (ve_cb1 (id := "len") cg_len nox_len T.b_len (by decide +kernel) (vb_name 11)) (va_cons (ve_cb1 (id := "sum") (cg_sum rfl) nox_sum T.b_sum (by decide +kernel) (vb_name 11)) va_nil)))) va_nil))) vss_nil) (vss_cons (w_set (O' := [8]) sc_law.nd (VO.ve (w_make rfl (takes_of rfl rfl rfl rfl) T.mk_Table (ok_Table___init__ T) (hr.mono (by decide)) T.g_Table T.bd_Table___init__ (va_cons (VO.ve (vo_cty1 (T := "list") cg_list nox_list T.b_list (by decide +kernel) (vb_name 4))) va_nil) (alen_cons alen_nil)))) (vss_cons (w_setO (O' := [13, 8]) sc_law.nd (w_callO (takes_of rfl rfl rfl rfl) (ok_plain_groups T) (hr.mono (by decide)) T.g_plain_groups T.k_plain_groups T.bd_plain_groups (va_cons (ve_name 12) va_nil) (alen_cons alen_nil))) (vss_cons (vs_if (O' := [13, 8]) (vt_bor (O := [13, 8]) (O1 := [8]) 13 (vt_bor (O := [8]) (O1 := []) 8 (vt_not (vt_val (w_call (takes_of rfl rfl rfl rfl) (ok_law_is_tuples T) (hr.mono (by decide)) T.g_law_is_tuples T.k_law_is_tuples T.bd_law_is_tuples (va_cons (ve_name 13) (va_cons (ve_name 8) va_nil)) (alen_cons (alen_cons alen_nil))))))) (vss_one (vs_ret ve_bl)) vss_nil) (vss_cons (w_append 13 (va_cons (ve_tup (va_cons ve_int (va_cons ve_int (va_cons ve_int va_nil)))) va_nil)) (vss_cons (w_frzB (O' := [13, 8]) 14 (vs_setLc (own := [("_law_k", 15)]) rfl sc_law.nd (w_range1 T.b_range (va_cons (ve_cb1 (id := "len") cg_len nox_len T.b_len (by decide +kernel) (vb_name 7)) va_nil)) (blkOk_by (own := [("_law_k", 15)]) (N := N_law) (sc := defScope s_law) (by decide +kernel)) (fun _ _ _ _ _ => (vg_name 15 sc_law.nd)) (fun _ _ _ _ _ => vts_nil) (fun _ _ _ _ _ => (ve_tup (va_cons (ve_ix (ig_ixE rfl rfl) nox_ixE (vb_name 7) (vb_name 15)) (va_cons (ve_bin og_fdiv nox_fdiv (vb_name 15) (vb_name 6)) va_nil)))))) (vss_cons (w_setO (O' := [16, 13, 8]) sc_law.nd (w_callO (takes_of rfl rfl rfl rfl) (ok_group_depth_bounds T) (hr.mono (by decide)) T.g_group_depth_bounds T.k_group_depth_bounds T.bd_group_depth_bounds (va_cons (ve_name 12) (va_cons (ve_name 6) va_nil)) (alen_cons (alen_cons alen_nil)))) (vss_cons (vs_if (O' := [16, 13, 8]) (vt_bor (O := [16, 13, 8]) (O1 := [13, 8]) 16 (vt_not (vt_val (w_call (takes_of rfl rfl rfl rfl) (ok_law_is_tuples T) (hr.mono (by decide)) T.g_law_is_tuples T.k_law_is_tuples T.bd_law_is_tuples (va_cons (ve_name 16) (va_cons (ve_name 14) va_nil)) (alen_cons (alen_cons alen_nil)))))) (vss_one (vs_ret ve_bl)) vss_nil) (vss_cons (w_reverse 16) (ws_frz (O1 := [16, 13]) 8 (vss_one (vs_ret (ve_and (w_call (takes_of rfl rfl rfl rfl) (ok_law_is_tuples T) (hr.mono (by decide)) T.g_law_is_tuples T.k_law_is_tuples T.bd_law_is_tuples (va_cons (VO.ve (w_callO (takes_of rfl rfl rfl rfl) (ok_plain_groups T) (hr.mono (by decide)) T.g_plain_groups T.k_plain_groups T.bd_plain_groups (va_cons (ve_name 12) va_nil) (alen_cons alen_nil))) (va_cons (ve_name 8) va_nil)) (alen_cons (alen_cons alen_nil))) (ve_one (ve_cmp (og_eq hr.units) nox_eq (VO.vb (vo_list (c := "Table") (fn := "_rows") T.it_Table (Spec.of T.m_Table___len__ (ok_Table___len__ T) T.bd_Table___len__) T.cl_Table rfl (hr.mono (by decide)) T.b_list (ve_name 12))) (vb_name 4)) _))))))))))))))))))))))))))))
end
theorem all_mk {l : PySem.W.OpenLaw} {w : World} {K : PySem.W.Frag} {h : Heap} {mg : Str → Option Value} {fa f_law_draws f_law_rows f_is_integer f_is_row f_Table___init__ f_plain_groups f_law_is_tuples f_Table_entries f_group_depth_bounds f_Table___len__ f_law f_Table___iter__ c_Table : Addr} (X : K.In h) (G : h.Ns mainGlobals mg) (hfa : mg "law" = some (.ref fa))
    {od_law_draws an_law_draws : Option Addr} {sl_law_draws : Array (Option Value)} {oc_law_draws kV_law_draws dc_law_draws pm_law_draws cd_law_draws ct_law_draws : Value}
    {od_law_rows an_law_rows : Option Addr} {sl_law_rows : Array (Option Value)} {oc_law_rows kV_law_rows dc_law_rows pm_law_rows cd_law_rows ct_law_rows : Value}
    {od_is_integer an_is_integer : Option Addr} {sl_is_integer : Array (Option Value)} {oc_is_integer kV_is_integer dc_is_integer pm_is_integer cd_is_integer ct_is_integer : Value}
    {od_is_row an_is_row : Option Addr} {sl_is_row : Array (Option Value)} {oc_is_row kV_is_row dc_is_row pm_is_row cd_is_row ct_is_row : Value}
    {od_Table___init__ an_Table___init__ : Option Addr} {sl_Table___init__ : Array (Option Value)} {oc_Table___init__ kV_Table___init__ dc_Table___init__ pm_Table___init__ cd_Table___init__ ct_Table___init__ : Value}
    {od_plain_groups an_plain_groups : Option Addr} {sl_plain_groups : Array (Option Value)} {oc_plain_groups kV_plain_groups dc_plain_groups pm_plain_groups cd_plain_groups ct_plain_groups : Value}
    {od_law_is_tuples an_law_is_tuples : Option Addr} {sl_law_is_tuples : Array (Option Value)} {oc_law_is_tuples kV_law_is_tuples dc_law_is_tuples pm_law_is_tuples cd_law_is_tuples ct_law_is_tuples : Value}
    {od_Table_entries an_Table_entries : Option Addr} {sl_Table_entries : Array (Option Value)} {oc_Table_entries kV_Table_entries dc_Table_entries pm_Table_entries cd_Table_entries ct_Table_entries : Value}
    {od_group_depth_bounds an_group_depth_bounds : Option Addr} {sl_group_depth_bounds : Array (Option Value)} {oc_group_depth_bounds kV_group_depth_bounds dc_group_depth_bounds pm_group_depth_bounds cd_group_depth_bounds ct_group_depth_bounds : Value}
    {od_Table___len__ an_Table___len__ : Option Addr} {sl_Table___len__ : Array (Option Value)} {oc_Table___len__ kV_Table___len__ dc_Table___len__ pm_Table___len__ cd_Table___len__ ct_Table___len__ : Value}
    {od_law an_law : Option Addr} {sl_law : Array (Option Value)} {oc_law kV_law dc_law pm_law cd_law ct_law : Value}
    {od_Table___iter__ an_Table___iter__ : Option Addr} {sl_Table___iter__ : Array (Option Value)} {oc_Table___iter__ kV_Table___iter__ dc_Table___iter__ pm_Table___iter__ cd_Table___iter__ ct_Table___iter__ : Value}
    (aC_Table : PySem.W.nsIn K mainGlobals "Table" = some (some (.ref c_Table)))
    (a_law_draws : PySem.W.nsIn K mainGlobals "_law_draws" = some (some (.ref f_law_draws)))
    (l_law_draws : K.lookup f_law_draws = some ⟨oc_law_draws, od_law_draws, .func (PySem.W.fnOf "_law_draws" "_law_draws" (defArgs s_law_draws) (defBody s_law_draws) (defScope s_law_draws) .none kV_law_draws dc_law_draws pm_law_draws an_law_draws cd_law_draws ct_law_draws), sl_law_draws⟩)
    (o_law_draws : PySem.W.codeIn K cd_law_draws "_law_draws" = true)
    (k_law_draws : PySem.W.keepIn K (.ref f_law_draws) = true)
    (a_law_rows : PySem.W.nsIn K mainGlobals "_law_rows" = some (some (.ref f_law_rows)))
    (l_law_rows : K.lookup f_law_rows = some ⟨oc_law_rows, od_law_rows, .func (PySem.W.fnOf "_law_rows" "_law_rows" (defArgs s_law_rows) (defBody s_law_rows) (defScope s_law_rows) .none kV_law_rows dc_law_rows pm_law_rows an_law_rows cd_law_rows ct_law_rows), sl_law_rows⟩)
    (o_law_rows : PySem.W.codeIn K cd_law_rows "_law_rows" = true)
    (k_law_rows : PySem.W.keepIn K (.ref f_law_rows) = true)
    (a_is_integer : PySem.W.nsIn K mainGlobals "is_integer" = some (some (.ref f_is_integer)))
    (l_is_integer : K.lookup f_is_integer = some ⟨oc_is_integer, od_is_integer, .func (PySem.W.fnOf "is_integer" "is_integer" (defArgs s_is_integer) (defBody s_is_integer) (defScope s_is_integer) .none kV_is_integer dc_is_integer pm_is_integer an_is_integer cd_is_integer ct_is_integer), sl_is_integer⟩)
    (o_is_integer : PySem.W.codeIn K cd_is_integer "is_integer" = true)
    (k_is_integer : PySem.W.keepIn K (.ref f_is_integer) = true)
    (a_is_row : PySem.W.nsIn K mainGlobals "is_row" = some (some (.ref f_is_row)))
    (l_is_row : K.lookup f_is_row = some ⟨oc_is_row, od_is_row, .func (PySem.W.fnOf "is_row" "is_row" (defArgs s_is_row) (defBody s_is_row) (defScope s_is_row) .none kV_is_row dc_is_row pm_is_row an_is_row cd_is_row ct_is_row), sl_is_row⟩)
    (o_is_row : PySem.W.codeIn K cd_is_row "is_row" = true)
    (k_is_row : PySem.W.keepIn K (.ref f_is_row) = true)
    (a_Table___init__ : PySem.W.findIn K (.ref c_Table) "__init__" = some (some (.ref f_Table___init__)))
    (i_Table___init__ : PySem.W.isFn K (.ref f_Table___init__) = true)
    (l_Table___init__ : K.lookup f_Table___init__ = some ⟨oc_Table___init__, od_Table___init__, .func (PySem.W.fnOf "__init__" "Table.__init__" (defArgs s_Table___init__) (defBody s_Table___init__) (defScope s_Table___init__) .none kV_Table___init__ dc_Table___init__ pm_Table___init__ an_Table___init__ cd_Table___init__ ct_Table___init__), sl_Table___init__⟩)
    (o_Table___init__ : PySem.W.codeIn K cd_Table___init__ "Table.__init__" = true)
    (k_Table___init__ : PySem.W.keepIn K (.ref f_Table___init__) = true)
    (a_plain_groups : PySem.W.nsIn K mainGlobals "plain_groups" = some (some (.ref f_plain_groups)))
    (l_plain_groups : K.lookup f_plain_groups = some ⟨oc_plain_groups, od_plain_groups, .func (PySem.W.fnOf "plain_groups" "plain_groups" (defArgs s_plain_groups) (defBody s_plain_groups) (defScope s_plain_groups) .none kV_plain_groups dc_plain_groups pm_plain_groups an_plain_groups cd_plain_groups ct_plain_groups), sl_plain_groups⟩)
    (o_plain_groups : PySem.W.codeIn K cd_plain_groups "plain_groups" = true)
    (k_plain_groups : PySem.W.keepIn K (.ref f_plain_groups) = true)
    (a_law_is_tuples : PySem.W.nsIn K mainGlobals "_law_is_tuples" = some (some (.ref f_law_is_tuples)))
    (l_law_is_tuples : K.lookup f_law_is_tuples = some ⟨oc_law_is_tuples, od_law_is_tuples, .func (PySem.W.fnOf "_law_is_tuples" "_law_is_tuples" (defArgs s_law_is_tuples) (defBody s_law_is_tuples) (defScope s_law_is_tuples) .none kV_law_is_tuples dc_law_is_tuples pm_law_is_tuples an_law_is_tuples cd_law_is_tuples ct_law_is_tuples), sl_law_is_tuples⟩)
    (o_law_is_tuples : PySem.W.codeIn K cd_law_is_tuples "_law_is_tuples" = true)
    (k_law_is_tuples : PySem.W.keepIn K (.ref f_law_is_tuples) = true)
    (a_Table_entries : PySem.W.findIn K (.ref c_Table) "entries" = some (some (.ref f_Table_entries)))
    (i_Table_entries : PySem.W.isFn K (.ref f_Table_entries) = true)
    (l_Table_entries : K.lookup f_Table_entries = some ⟨oc_Table_entries, od_Table_entries, .func (PySem.W.fnOf "entries" "Table.entries" (defArgs s_Table_entries) (defBody s_Table_entries) (defScope s_Table_entries) .none kV_Table_entries dc_Table_entries pm_Table_entries an_Table_entries cd_Table_entries ct_Table_entries), sl_Table_entries⟩)
    (o_Table_entries : PySem.W.codeIn K cd_Table_entries "Table.entries" = true)
    (k_Table_entries : PySem.W.keepIn K (.ref f_Table_entries) = true)
    (a_group_depth_bounds : PySem.W.nsIn K mainGlobals "group_depth_bounds" = some (some (.ref f_group_depth_bounds)))
    (l_group_depth_bounds : K.lookup f_group_depth_bounds = some ⟨oc_group_depth_bounds, od_group_depth_bounds, .func (PySem.W.fnOf "group_depth_bounds" "group_depth_bounds" (defArgs s_group_depth_bounds) (defBody s_group_depth_bounds) (defScope s_group_depth_bounds) .none kV_group_depth_bounds dc_group_depth_bounds pm_group_depth_bounds an_group_depth_bounds cd_group_depth_bounds ct_group_depth_bounds), sl_group_depth_bounds⟩)
    (o_group_depth_bounds : PySem.W.codeIn K cd_group_depth_bounds "group_depth_bounds" = true)
    (k_group_depth_bounds : PySem.W.keepIn K (.ref f_group_depth_bounds) = true)
    (a_Table___len__ : PySem.W.findIn K (.ref c_Table) "__len__" = some (some (.ref f_Table___len__)))
    (i_Table___len__ : PySem.W.isFn K (.ref f_Table___len__) = true)
    (l_Table___len__ : K.lookup f_Table___len__ = some ⟨oc_Table___len__, od_Table___len__, .func (PySem.W.fnOf "__len__" "Table.__len__" (defArgs s_Table___len__) (defBody s_Table___len__) (defScope s_Table___len__) .none kV_Table___len__ dc_Table___len__ pm_Table___len__ an_Table___len__ cd_Table___len__ ct_Table___len__), sl_Table___len__⟩)
    (o_Table___len__ : PySem.W.codeIn K cd_Table___len__ "Table.__len__" = true)
    (k_Table___len__ : PySem.W.keepIn K (.ref f_Table___len__) = true)
    (a_law : PySem.W.nsIn K mainGlobals "law" = some (some (.ref f_law)))
    (l_law : K.lookup f_law = some ⟨oc_law, od_law, .func (PySem.W.fnOf "law" "law" (defArgs s_law) (defBody s_law) (defScope s_law) .none kV_law dc_law pm_law an_law cd_law ct_law), sl_law⟩)
    (o_law : PySem.W.codeIn K cd_law "law" = true)
    (k_law : PySem.W.keepIn K (.ref f_law) = true)
    (a_Table___iter__ : PySem.W.findIn K (.ref c_Table) "__iter__" = some (some (.ref f_Table___iter__)))
    (i_Table___iter__ : PySem.W.isFn K (.ref f_Table___iter__) = true)
    (l_Table___iter__ : K.lookup f_Table___iter__ = some ⟨oc_Table___iter__, od_Table___iter__, .func (PySem.W.fnOf "__iter__" "Table.__iter__" (defArgs s_Table___iter__) (defBody s_Table___iter__) (defScope s_Table___iter__) .none kV_Table___iter__ dc_Table___iter__ pm_Table___iter__ an_Table___iter__ cd_Table___iter__ ct_Table___iter__), sl_Table___iter__⟩)
    (o_Table___iter__ : PySem.W.codeIn K cd_Table___iter__ "Table.__iter__" = true)
    (k_Table___iter__ : PySem.W.keepIn K (.ref f_Table___iter__) = true)
    (pg_Table : PySem.W.plainGet K c_Table Str.empty = true)
    (hd_Table : PySem.W.hasDictIn K c_Table = true)
    (po_Table : PySem.W.plainOver K c_Table = true)
    (sa_Table : PySem.W.findIn K (.ref c_Table) "__setattr__" = some (some (.builtin "object.__setattr__")))
    (mk_Table : PySem.W.makesIn K c_Table = true)
    (kc_Table : PySem.W.keepIn K (.ref c_Table) = true)
    (n_Table_rows : PySem.W.findIn K (.ref c_Table) "_rows" = some none)
    (z_abs : PySem.W.nsIn K mainGlobals "abs" = some none)
    (z_bool : PySem.W.nsIn K mainGlobals "bool" = some none)
    (z_enumerate : PySem.W.nsIn K mainGlobals "enumerate" = some none)
    (z_int : PySem.W.nsIn K mainGlobals "int" = some none)
    (z_isinstance : PySem.W.nsIn K mainGlobals "isinstance" = some none)
    (z_iter : PySem.W.nsIn K mainGlobals "iter" = some none)
    (z_len : PySem.W.nsIn K mainGlobals "len" = some none)
    (z_list : PySem.W.nsIn K mainGlobals "list" = some none)
    (z_range : PySem.W.nsIn K mainGlobals "range" = some none)
    (z_sorted : PySem.W.nsIn K mainGlobals "sorted" = some none)
    (z_sum : PySem.W.nsIn K mainGlobals "sum" = some none)
    (z_tuple : PySem.W.nsIn K mainGlobals "tuple" = some none) :
    ∃ fd : FuncData, (∀ (s : Shared) (v : Value), BindsTo s fd ⟨[v], []⟩ [("_law_script", v)]) ∧ ∀ base : Heap, K.In base → base.Ns mainGlobals mg → FnOk l.prog w K mg base (L2.CX l.prog w) 7 fa fd ["_law_script"] (spLaw K) := by
  have e := hfa.symm.trans (PySem.W.mg_of X G a_law)
  cases e
  have F_law_draws := fun_mk (st := s_law_draws) l_law_draws o_law_draws k_law_draws
  have b_law_draws := F_law_draws.binds (ps := ["_law_script", "_law_at", "_law_many"]) fun _ _ _ _ _ _ us hl => match us, hl with | [_, _, _], _ => rfl
  have F_law_rows := fun_mk (st := s_law_rows) l_law_rows o_law_rows k_law_rows
  have b_law_rows := F_law_rows.binds (ps := ["_law_script", "_law_first", "_law_many", "_law_spread", "_law_step"]) fun _ _ _ _ _ _ us hl => match us, hl with | [_, _, _, _, _], _ => rfl
  have F_is_integer := fun_mk (st := s_is_integer) l_is_integer o_is_integer k_is_integer
  have b_is_integer := F_is_integer.binds (ps := ["thing"]) fun _ _ _ _ _ _ us hl => match us, hl with | [_], _ => rfl
  have F_is_row := fun_mk (st := s_is_row) l_is_row o_is_row k_is_row
  have b_is_row := F_is_row.binds (ps := ["thing"]) fun _ _ _ _ _ _ us hl => match us, hl with | [_], _ => rfl
  have F_Table___init__ := fun_mk (st := s_Table___init__) l_Table___init__ o_Table___init__ k_Table___init__
  have b_Table___init__ := F_Table___init__.binds (ps := ["self", "rows"]) fun _ _ _ _ _ _ us hl => match us, hl with | [_, _], _ => rfl
  have F_plain_groups := fun_mk (st := s_plain_groups) l_plain_groups o_plain_groups k_plain_groups
  have b_plain_groups := F_plain_groups.binds (ps := ["table"]) fun _ _ _ _ _ _ us hl => match us, hl with | [_], _ => rfl
  have F_law_is_tuples := fun_mk (st := s_law_is_tuples) l_law_is_tuples o_law_is_tuples k_law_is_tuples
  have b_law_is_tuples := F_law_is_tuples.binds (ps := ["_law_told", "_law_due"]) fun _ _ _ _ _ _ us hl => match us, hl with | [_, _], _ => rfl
  have F_Table_entries := fun_mk (st := s_Table_entries) l_Table_entries o_Table_entries k_Table_entries
  have b_Table_entries := F_Table_entries.binds (ps := ["self"]) fun _ _ _ _ _ _ us hl => match us, hl with | [_], _ => rfl
  have F_group_depth_bounds := fun_mk (st := s_group_depth_bounds) l_group_depth_bounds o_group_depth_bounds k_group_depth_bounds
  have b_group_depth_bounds := F_group_depth_bounds.binds (ps := ["table", "room"]) fun _ _ _ _ _ _ us hl => match us, hl with | [_, _], _ => rfl
  have F_Table___len__ := fun_mk (st := s_Table___len__) l_Table___len__ o_Table___len__ k_Table___len__
  have b_Table___len__ := F_Table___len__.binds (ps := ["self"]) fun _ _ _ _ _ _ us hl => match us, hl with | [_], _ => rfl
  have F_law := fun_mk (st := s_law) l_law o_law k_law
  have b_law := F_law.binds (ps := ["_law_script"]) fun _ _ _ _ _ _ us hl => match us, hl with | [_], _ => rfl
  have F_Table___iter__ := fun_mk (st := s_Table___iter__) l_Table___iter__ o_Table___iter__ k_Table___iter__
  have b_Table___iter__ := F_Table___iter__.binds (ps := ["self"]) fun _ _ _ _ _ _ us hl => match us, hl with | [_], _ => rfl
  let A : Ad := ⟨f_law_draws, (PySem.W.fnOf "_law_draws" "_law_draws" (defArgs s_law_draws) (defBody s_law_draws) (defScope s_law_draws) .none kV_law_draws dc_law_draws pm_law_draws an_law_draws cd_law_draws ct_law_draws), f_law_rows, (PySem.W.fnOf "_law_rows" "_law_rows" (defArgs s_law_rows) (defBody s_law_rows) (defScope s_law_rows) .none kV_law_rows dc_law_rows pm_law_rows an_law_rows cd_law_rows ct_law_rows), f_is_integer, (PySem.W.fnOf "is_integer" "is_integer" (defArgs s_is_integer) (defBody s_is_integer) (defScope s_is_integer) .none kV_is_integer dc_is_integer pm_is_integer an_is_integer cd_is_integer ct_is_integer), f_is_row, (PySem.W.fnOf "is_row" "is_row" (defArgs s_is_row) (defBody s_is_row) (defScope s_is_row) .none kV_is_row dc_is_row pm_is_row an_is_row cd_is_row ct_is_row), f_Table___init__, (PySem.W.fnOf "__init__" "Table.__init__" (defArgs s_Table___init__) (defBody s_Table___init__) (defScope s_Table___init__) .none kV_Table___init__ dc_Table___init__ pm_Table___init__ an_Table___init__ cd_Table___init__ ct_Table___init__), f_plain_groups, (PySem.W.fnOf "plain_groups" "plain_groups" (defArgs s_plain_groups) (defBody s_plain_groups) (defScope s_plain_groups) .none kV_plain_groups dc_plain_groups pm_plain_groups an_plain_groups cd_plain_groups ct_plain_groups), f_law_is_tuples, (PySem.W.fnOf "_law_is_tuples" "_law_is_tuples" (defArgs s_law_is_tuples) (defBody s_law_is_tuples) (defScope s_law_is_tuples) .none kV_law_is_tuples dc_law_is_tuples pm_law_is_tuples an_law_is_tuples cd_law_is_tuples ct_law_is_tuples), f_Table_entries, (PySem.W.fnOf "entries" "Table.entries" (defArgs s_Table_entries) (defBody s_Table_entries) (defScope s_Table_entries) .none kV_Table_entries dc_Table_entries pm_Table_entries an_Table_entries cd_Table_entries ct_Table_entries), f_group_depth_bounds, (PySem.W.fnOf "group_depth_bounds" "group_depth_bounds" (defArgs s_group_depth_bounds) (defBody s_group_depth_bounds) (defScope s_group_depth_bounds) .none kV_group_depth_bounds dc_group_depth_bounds pm_group_depth_bounds an_group_depth_bounds cd_group_depth_bounds ct_group_depth_bounds), f_Table___len__, (PySem.W.fnOf "__len__" "Table.__len__" (defArgs s_Table___len__) (defBody s_Table___len__) (defScope s_Table___len__) .none kV_Table___len__ dc_Table___len__ pm_Table___len__ an_Table___len__ cd_Table___len__ ct_Table___len__), fa, (PySem.W.fnOf "law" "law" (defArgs s_law) (defBody s_law) (defScope s_law) .none kV_law dc_law pm_law an_law cd_law ct_law), f_Table___iter__, (PySem.W.fnOf "__iter__" "Table.__iter__" (defArgs s_Table___iter__) (defBody s_Table___iter__) (defScope s_Table___iter__) .none kV_Table___iter__ dc_Table___iter__ pm_Table___iter__ an_Table___iter__ cd_Table___iter__ ct_Table___iter__), c_Table⟩
  have T : Txt K mg A := ⟨PySem.W.mg_none_of X G z_abs,
    PySem.W.mg_none_of X G z_bool,
    PySem.W.mg_none_of X G z_enumerate,
    PySem.W.mg_none_of X G z_int,
    PySem.W.mg_none_of X G z_isinstance,
    PySem.W.mg_none_of X G z_iter,
    PySem.W.mg_none_of X G z_len,
    PySem.W.mg_none_of X G z_list,
    PySem.W.mg_none_of X G z_range,
    PySem.W.mg_none_of X G z_sorted,
    PySem.W.mg_none_of X G z_sum,
    PySem.W.mg_none_of X G z_tuple,
    F_law_draws,
    b_law_draws,
    PySem.W.mg_of X G a_law_draws,
    k_law_draws,
    F_law_rows,
    b_law_rows,
    PySem.W.mg_of X G a_law_rows,
    k_law_rows,
    F_is_integer,
    b_is_integer,
    PySem.W.mg_of X G a_is_integer,
    k_is_integer,
    F_is_row,
    b_is_row,
    PySem.W.mg_of X G a_is_row,
    k_is_row,
    F_Table___init__,
    b_Table___init__,
    F_plain_groups,
    b_plain_groups,
    PySem.W.mg_of X G a_plain_groups,
    k_plain_groups,
    F_law_is_tuples,
    b_law_is_tuples,
    PySem.W.mg_of X G a_law_is_tuples,
    k_law_is_tuples,
    F_Table_entries,
    b_Table_entries,
    F_group_depth_bounds,
    b_group_depth_bounds,
    PySem.W.mg_of X G a_group_depth_bounds,
    k_group_depth_bounds,
    F_Table___len__,
    b_Table___len__,
    F_law,
    b_law,
    PySem.W.mg_of X G a_law,
    k_law,
    F_Table___iter__,
    b_Table___iter__,
    PySem.W.mg_of X G aC_Table,
    ⟨pg_Table, hd_Table, po_Table, sa_Table⟩,
    n_Table_rows,
    ⟨mk_Table, a_Table___init__, i_Table___init__, kc_Table⟩,
    ⟨a_Table___len__, i_Table___len__, k_Table___len__⟩,
    ⟨a_Table_entries, i_Table_entries, k_Table_entries⟩,
    ⟨a_Table___iter__, i_Table___iter__, ⟨pg_Table, hd_Table, po_Table, sa_Table⟩, n_Table_rows, PySem.W.mg_none_of X G z_iter, _, _, _, _, _, _, _, _, F_Table___iter__, sc_Table___iter__, rfl, rfl, b_Table___iter__, rfl⟩⟩
  exact ⟨_, fun s v => .of_eq rfl, fun base _ _ => law_of (ok_law (A := A) T) law_true⟩
end Law
theorem PySem.Challenge.cw_anyhashes_k77_plain_groups_holds : PySem.Challenge.rw_anyhashes_k77_plain_groups.Holds := by
  w_on; o_law; k_head; (case hw => w_witness2)
  k_fill
  refine VS.walk_law (k := 7) (l := PySem.Challenge.rw_anyhashes_k77_plain_groups) rfl rfl ⟨rfl, by decide, by decide⟩ (fun w h Y => PySem.W.kIn_of Y) ?F
  case F =>
    intro w mg fa h KX G hmg
    refine' Law.all_mk KX G hmg ?aC_Table ?a_law_draws ?l_law_draws ?o_law_draws ?k_law_draws ?a_law_rows ?l_law_rows ?o_law_rows ?k_law_rows ?a_is_integer ?l_is_integer ?o_is_integer ?k_is_integer ?a_is_row ?l_is_row ?o_is_row ?k_is_row ?a_Table___init__ ?i_Table___init__ ?l_Table___init__ ?o_Table___init__ ?k_Table___init__ ?a_plain_groups ?l_plain_groups ?o_plain_groups ?k_plain_groups ?a_law_is_tuples ?l_law_is_tuples ?o_law_is_tuples ?k_law_is_tuples ?a_Table_entries ?i_Table_entries ?l_Table_entries ?o_Table_entries ?k_Table_entries ?a_group_depth_bounds ?l_group_depth_bounds ?o_group_depth_bounds ?k_group_depth_bounds ?a_Table___len__ ?i_Table___len__ ?l_Table___len__ ?o_Table___len__ ?k_Table___len__ ?a_law ?l_law ?o_law ?k_law ?a_Table___iter__ ?i_Table___iter__ ?l_Table___iter__ ?o_Table___iter__ ?k_Table___iter__ ?pg_Table ?hd_Table ?po_Table ?sa_Table ?mk_Table ?kc_Table ?n_Table_rows ?z_abs ?z_bool ?z_enumerate ?z_int ?z_isinstance ?z_iter ?z_len ?z_list ?z_range ?z_sorted ?z_sum ?z_tuple
    (case aC_Table => k_is)
    (case a_law_draws => k_is)
    (case l_law_draws => k_is)
    (case o_law_draws => k_is)
    (case k_law_draws => k_is)
    (case a_law_rows => k_is)
    (case l_law_rows => k_is)
    (case o_law_rows => k_is)
    (case k_law_rows => k_is)
    (case a_is_integer => k_is)
    (case l_is_integer => k_is)
    (case o_is_integer => k_is)
    (case k_is_integer => k_is)
    (case a_is_row => k_is)
    (case l_is_row => k_is)
    (case o_is_row => k_is)
    (case k_is_row => k_is)
    (case a_Table___init__ => k_is)
    (case i_Table___init__ => k_is)
    (case l_Table___init__ => k_is)
    (case o_Table___init__ => k_is)
    (case k_Table___init__ => k_is)
    (case a_plain_groups => k_is)
    (case l_plain_groups => k_is)
    (case o_plain_groups => k_is)
    (case k_plain_groups => k_is)
    (case a_law_is_tuples => k_is)
    (case l_law_is_tuples => k_is)
    (case o_law_is_tuples => k_is)
    (case k_law_is_tuples => k_is)
    (case a_Table_entries => k_is)
    (case i_Table_entries => k_is)
    (case l_Table_entries => k_is)
    (case o_Table_entries => k_is)
    (case k_Table_entries => k_is)
    (case a_group_depth_bounds => k_is)
    (case l_group_depth_bounds => k_is)
    (case o_group_depth_bounds => k_is)
    (case k_group_depth_bounds => k_is)
    (case a_Table___len__ => k_is)
    (case i_Table___len__ => k_is)
    (case l_Table___len__ => k_is)
    (case o_Table___len__ => k_is)
    (case k_Table___len__ => k_is)
    (case a_law => k_is)
    (case l_law => k_is)
    (case o_law => k_is)
    (case k_law => k_is)
    (case a_Table___iter__ => k_is)
    (case i_Table___iter__ => k_is)
    (case l_Table___iter__ => k_is)
    (case o_Table___iter__ => k_is)
    (case k_Table___iter__ => k_is)
    (case pg_Table => k_is)
    (case hd_Table => k_is)
    (case po_Table => k_is)
    (case sa_Table => k_is)
    (case mk_Table => k_is)
    (case kc_Table => k_is)
    (case n_Table_rows => k_is)
    (case z_abs => k_is)
    (case z_bool => k_is)
    (case z_enumerate => k_is)
    (case z_int => k_is)
    (case z_isinstance => k_is)
    (case z_iter => k_is)
    (case z_len => k_is)
    (case z_list => k_is)
    (case z_range => k_is)
    (case z_sorted => k_is)
    (case z_sum => k_is)
    (case z_tuple => k_is)
