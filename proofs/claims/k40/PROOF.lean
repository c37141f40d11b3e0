import PyProof.Rows.All
import Wide.All
import OpenK.AllK
import Wide.FinOn
import HandS.ForMost
import HandS.Exc
import HandS.OwnEq
import KE.DataEq
import KE.DataCmp
import KE.DataFind
import KE.DataIsa
import KE.DataAny
import KE.DataMinMax
import HandS.TupAny
import HandS.TupMul
import HandS.Style
import HandS.IsInst
import HandS.Walk
import HandS.Comp
import HandS.Iter
import HandS.Rev
import HandS.Zip
import HandS.WordsExc
import HandS.Ends
import HandS.Small
import HandS.ExcOwn
import PyProof.SeqIndex
import HandS.Strs
import PySem.Challenge.RW_stretchwebs_k40_whole_relations_of_spans
set_option Elab.async false
set_option linter.all false
set_option autoImplicit false
set_option maxRecDepth 100000
set_option maxHeartbeats 4000000
namespace SW
open PySem PySem.Spec PyProof.Rows L2

/-! ### values as trees -/
inductive Val where
  | non
  | bl (b : Bool)
  | int (i : Int)
  | str (x : Str)
  | tup (xs : List Val)
  | lst (xs : List Val)
  | dct (ks vs : List Val)
  | ins (c : Nat) (fs : List Val)
  | ref (l : Nat)

/-- what of the text the relation leans on -/
structure Tab where
  K : PySem.W.Frag
  cA : Nat → Addr
  cF : Nat → List Str

def kVal : Key → Val
  | .inl i => .int i
  | .inr x => .str x

/-- a list of the text's own -/
def KLs (K : PySem.W.Frag) (a : Addr) (xs : List V) : Prop := ∃ (o : Obj) (its : Array Value) (n : Nat), K.lookup a = some o ∧ o.cls = .type "list" ∧ o.dict = none ∧ o.data = .seq its n ∧ its.size ≤ sizeLine ∧ Vals xs its.toList
mutual
/-- the value v of the interpreter is the value x over the abstract heap H; U: what may be written by somebody; m: where the located objects are -/
inductive Rep (T : Tab) (H : Hp) (U : Addr → Prop) (m : List (Option Addr)) : Val → V → Prop
  | non : Rep T H U m .non .non
  | bl (b : Bool) : Rep T H U m (.bl b) (.bl b)
  | int (i : Int) : Rep T H U m (.int i) (.int i)
  | str (x : Str) : Rep T H U m (.str x) (.str x)
  | tup {a : Addr} {xs : List V} {vs : List Val} : vs.length ≤ sizeLine → SqT T.K H a xs → Reps T H U m vs xs → Rep T H U m (.tup vs) (.ref a)
  | lst {a : Addr} {xs : List V} {vs : List Val} : vs.length ≤ sizeLine → H a = some (.lst xs) → ¬ U a → Reps T H U m vs xs → Rep T H U m (.lst vs) (.ref a)
  | dK {a : Addr} {kvs : List (Key × V)} {ks vs : List Val} : H a = some (.dK kvs) → ¬ U a → ks = kvs.map (fun p => kVal p.1) → Reps T H U m vs (kvs.map (·.2)) → Rep T H U m (.dct ks vs) (.ref a)
  | dT {a : Addr} {kvs : List (List Key × V)} {ks vs : List Val} : H a = some (.dT kvs) → ¬ U a → ks = Val.non :: kvs.map (fun p => Val.tup (p.1.map kVal)) → Reps T H U m vs (kvs.map (·.2)) → Rep T H U m (.dct ks vs) (.ref a)
  /-- the script (class 0) -/
  | scr {a : Addr} {xs : List V} {vs : List Val} : vs.length ≤ sizeLine → (Rd H a (.lst xs) ∧ ¬ U a) ∨ KLs T.K a xs → Reps T H U m vs xs → Rep T H U m (.ins 0 vs) (.ref a)
  | ins {a dx : Addr} {c : Nat} {xs : List V} {vs : List Val} : c ≠ 0 → H a = some (.ins (T.cA c) dx ((T.cF c).zip xs)) → xs.length ≤ (T.cF c).length → ¬ U a → Reps T H U m vs xs → Rep T H U m (.ins c vs) (.ref a)
  | ref {l : Nat} {x : V} : l < m.length → (∀ a, m[l]? = some (some a) → x = .ref a) → Rep T H U m (.ref l) x
inductive Reps (T : Tab) (H : Hp) (U : Addr → Prop) (m : List (Option Addr)) : List Val → List V → Prop
  | nil : Reps T H U m [] []
  | cons {v : Val} {vs : List Val} {x : V} {xs : List V} : Rep T H U m v x → Reps T H U m vs xs → Reps T H U m (v :: vs) (x :: xs)
end

/-- a is located, and alive -/
def Lv (m : List (Option Addr)) (a : Addr) : Prop := ∃ l : Nat, m[l]? = some (some a)
/-- what is located: some may have died, new ones have come -/
structure Mg (H : Hp) (m m' : List (Option Addr)) : Prop where
  len : m.length ≤ m'.length
  old : ∀ (l : Nat) (a : Addr), l < m.length → m'[l]? = some (some a) → m[l]? = some (some a)
  new : ∀ (l : Nat) (a : Addr), m.length ≤ l → m'[l]? = some (some a) → H a = none
/-- from (H, U, m) to (H', U', m'): what is not of m is kept, U and m grow by new addresses -/
structure Gr (H : Hp) (U : Addr → Prop) (m : List (Option Addr)) (H' : Hp) (U' : Addr → Prop) (m' : List (Option Addr)) : Prop where
  keep : ∀ a o, ¬ Lv m a → H a = some o → H' a = some o
  new : ∀ a, U' a → U a ∨ H a = none
  ext : Mg H m m'
  there : ∀ a, H a ≠ none → H' a ≠ none
  up : ∀ a, U a → H a ≠ none → ¬ Lv m a → U' a
/-- the same, but what is of U may change -/
structure Gw (H : Hp) (U : Addr → Prop) (m : List (Option Addr)) (H' : Hp) (U' : Addr → Prop) (m' : List (Option Addr)) : Prop where
  keep : ∀ a o, ¬ U a → H a = some o → H' a = some o
  new : ∀ a, U' a → U a ∨ H a = none
  len : m.length ≤ m'.length
  old : ∀ (l : Nat) (a : Addr), l < m.length → m'[l]? = some (some a) → m[l]? = some (some a)
/-- U holds what may be written alone -/
def MutU (H : Hp) (U : Addr → Prop) : Prop := ∀ a, U a → ∃ u, H a = some u ∧ Mut (some u)

section
variable {T : Tab} {H H' H2 : Hp} {U U' U2 : Addr → Prop} {m m' m2 : List (Option Addr)}
theorem Mg.refl : Mg H m m := ⟨Nat.le_refl _, fun _ _ _ h => h, fun l a h e => by
  have := (List.getElem?_eq_some_iff.mp e).1
  omega⟩
theorem Gr.refl : Gr H U m H U m := ⟨fun _ _ _ h => h, fun _ h => .inl h, .refl, fun _ h => h, fun _ h _ _ => h⟩
theorem Gr.live (g : Gr H U m H' U' m') {a : Addr} (ha : ¬ Lv m a) {o : HO} (h : H a = some o) : ¬ Lv m' a := fun ⟨l, e⟩ => by
  by_cases hl : l < m.length
  · exact ha ⟨l, g.ext.old l a hl e⟩
  · rw [g.ext.new l a (by omega) e] at h; cases h
theorem Gr.fresh (g : Gr H U m H' U' m') {a : Addr} (h : H' a = none) : H a = none := by
  cases e : H a with
  | none => rfl
  | some o => exact absurd h (g.there a (by rw [e]; exact fun z => nomatch z))
theorem Gr.trans (g : Gr H U m H' U' m') (k : Gr H' U' m' H2 U2 m2) : Gr H U m H2 U2 m2 := by
  refine ⟨fun a o ha h => k.keep a o (g.live ha h) (g.keep a o ha h), fun a h => ?_, ⟨Nat.le_trans g.ext.len k.ext.len, fun l a hl e => g.ext.old l a hl (k.ext.old l a (Nat.lt_of_lt_of_le hl g.ext.len) e), fun l a hl e => ?_⟩, fun a h => k.there a (g.there a h), fun a h1 h2 h3 => k.up a (g.up a h1 h2 h3) (g.there a h2) ?_⟩
  · rcases k.new a h with z | z
    · exact g.new a z
    · exact .inr (g.fresh z)
  · by_cases h2 : l < m'.length
    · exact g.ext.new l a hl (k.ext.old l a h2 e)
    · exact g.fresh (k.ext.new l a (by omega) e)
  · cases e : H a with
    | none => exact absurd e h2
    | some o => exact g.live h3 e
theorem Gr.of_ext (h : Ext H H') : Gr H U m H' U m := by
  refine ⟨fun a o _ e => h a o e, fun _ h => .inl h, .refl, fun a ha z => ?_, fun _ h _ _ => h⟩
  cases e : H a with
  | none => exact ha e
  | some o => rw [h a o e] at z; cases z
theorem Gr.gw (g : Gr H U m H' U' m') (hs : ∀ a, Lv m a → U a) : Gw H U m H' U' m' := ⟨fun a o hu e => g.keep a o (fun z => hu (hs a z)) e, g.new, g.ext.len, g.ext.old⟩
theorem Gw.trans (g : Gw H U m H' U' m') (k : Gw H' U' m' H2 U2 m2) : Gw H U m H2 U2 m2 := by
  refine ⟨fun a o hu e => k.keep a o (fun z => ?_) (g.keep a o hu e), fun a h => ?_, Nat.le_trans g.len k.len, fun l a hl e => g.old l a hl (k.old l a (Nat.lt_of_lt_of_le hl g.len) e)⟩
  · rcases g.new a z with q | q
    · exact hu q
    · rw [q] at e; cases e
  · rcases k.new a h with z | z
    · exact g.new a z
    · by_cases hu : U a
      · exact .inl hu
      · cases e : H a with
        | none => exact .inr rfl
        | some o => rw [g.keep a o hu e] at z; cases z
theorem Gw.refl : Gw H U m H U m := ⟨fun _ _ _ e => e, fun _ h => .inl h, Nat.le_refl _, fun _ _ _ e => e⟩
theorem Gw.rd (g : Gw H U m H' U' m') {a : Addr} {o : HO} (ha : ¬ U a) (h : Rd H a o) : Rd H' a o := by
  rcases h with h | ⟨u, h⟩
  · exact .inl (g.keep _ _ ha h)
  · exact .inr ⟨u, g.keep _ _ ha h⟩
theorem Gw.notU (g : Gw H U m H' U' m') {a : Addr} {o : HO} (ha : ¬ U a) (h : H a = some o) : ¬ U' a := fun z => by
  rcases g.new a z with z | z
  · exact ha z
  · rw [z] at h; cases h
theorem Rd.some {H : Hp} {a : Addr} {o : HO} (h : Rd H a o) : ∃ u, H a = Option.some u := by
  rcases h with h | ⟨u, h⟩ <;> exact ⟨_, h⟩
theorem MutU.nt (mu : MutU H U) {a : Addr} {xs : List V} (h : Rd H a (.tup xs)) : ¬ U a := fun z => by
  obtain ⟨u, e, q⟩ := mu a z
  rcases h with h | ⟨o, h⟩ <;> (rw [h] at e; cases e; exact q)
theorem Gw.sqT (g : Gw H U m H' U' m') (mu : MutU H U) {a : Addr} {xs : List V} (h : SqT T.K H a xs) : SqT T.K H' a xs := by
  rcases h with h | h
  · exact .inl (g.rd (mu.nt h) h)
  · exact .inr h
mutual
theorem Rep.gr (g : Gw H U m H' U' m') (nt : MutU H U) : ∀ {v : Val} {x : V}, Rep T H U m v x → Rep T H' U' m' v x
  | .non, _, h => by cases h; exact .non
  | .bl _, _, h => by cases h; exact .bl _
  | .int _, _, h => by cases h; exact .int _
  | .str _, _, h => by cases h; exact .str _
  | .tup _, _, h => by
    cases h with
    | tup h0 h1 h2 => exact .tup h0 (g.sqT nt h1) (Reps.gr g nt h2)
  | .lst _, _, h => by
    cases h with
    | lst h0 h1 h2 h3 => exact .lst h0 (g.keep _ _ h2 h1) (g.notU h2 h1) (Reps.gr g nt h3)
  | .dct _ _, _, h => by
    cases h with
    | dK h1 h2 h3 h4 => exact .dK (g.keep _ _ h2 h1) (g.notU h2 h1) h3 (Reps.gr g nt h4)
    | dT h1 h2 h3 h4 => exact .dT (g.keep _ _ h2 h1) (g.notU h2 h1) h3 (Reps.gr g nt h4)
  | .ins _ _, _, h => by
    cases h with
    | scr h0 h1 h4 =>
      refine .scr h0 ?_ (Reps.gr g nt h4)
      rcases h1 with ⟨h1, h2⟩ | h1
      · obtain ⟨u, hu⟩ := Rd.some h1
        exact .inl ⟨g.rd h2 h1, g.notU h2 hu⟩
      · exact .inr h1
    | ins h0 h1 h2 h3 h4 => exact .ins h0 (g.keep _ _ h3 h1) h2 (g.notU h3 h1) (Reps.gr g nt h4)
  | .ref _, _, h => by
    cases h with
    | ref h1 h2 => exact .ref (Nat.lt_of_lt_of_le h1 g.len) fun a e => h2 a (g.old _ a h1 e)
theorem Reps.gr (g : Gw H U m H' U' m') (nt : MutU H U) : ∀ {vs : List Val} {xs : List V}, Reps T H U m vs xs → Reps T H' U' m' vs xs
  | [], _, h => by cases h; exact .nil
  | _ :: _, _, h => by
    cases h with
    | cons h1 h2 => exact .cons (Rep.gr g nt h1) (Reps.gr g nt h2)
end
theorem Reps.length : ∀ {vs : List Val} {xs : List V}, Reps T H U m vs xs → vs.length = xs.length
  | [], _, h => by cases h; rfl
  | _ :: _, _, h => by
    cases h with
    | cons h1 h2 => simp [Reps.length h2]
theorem Reps.get : ∀ {vs : List Val} {xs : List V} {i : Nat} {v : Val}, Reps T H U m vs xs → vs[i]? = some v → ∃ x, xs[i]? = some x ∧ Rep T H U m v x
  | [], _, _, _, _, e => by simp at e
  | _ :: _, _, 0, _, h, e => by
    cases h with
    | cons h1 h2 => simp at e; subst e; exact ⟨_, rfl, h1⟩
  | _ :: _, _, i + 1, _, h, e => by
    cases h with
    | cons h1 h2 =>
      obtain ⟨x, e1, r⟩ := Reps.get (i := i) h2 (by simpa using e)
      exact ⟨x, by simpa using e1, r⟩
theorem Reps.getV : ∀ {vs : List Val} {xs : List V} {i : Nat} {x : V}, Reps T H U m vs xs → xs[i]? = some x → ∃ v, vs[i]? = some v ∧ Rep T H U m v x
  | [], _, _, _, h, e => by cases h; simp at e
  | _ :: _, _, 0, _, h, e => by
    cases h with
    | cons h1 h2 => simp at e; subst e; exact ⟨_, rfl, h1⟩
  | _ :: _, _, i + 1, _, h, e => by
    cases h with
    | cons h1 h2 =>
      obtain ⟨x, e1, r⟩ := Reps.getV (i := i) h2 (by simpa using e)
      exact ⟨x, by simpa using e1, r⟩
theorem Reps.append : ∀ {vs ws : List Val} {xs ys : List V}, Reps T H U m vs xs → Reps T H U m ws ys → Reps T H U m (vs ++ ws) (xs ++ ys)
  | [], _, _, _, h, k => by cases h; exact k
  | _ :: _, _, _, _, h, k => by
    cases h with
    | cons h1 h2 => exact .cons h1 (Reps.append h2 k)
theorem Reps.take : ∀ {vs : List Val} {xs : List V} (n : Nat), Reps T H U m vs xs → Reps T H U m (vs.take n) (xs.take n)
  | _, _, 0, _ => by simp; exact .nil
  | [], _, n + 1, h => by cases h; exact .nil
  | _ :: _, _, n + 1, h => by
    cases h with
    | cons h1 h2 => exact .cons h1 (Reps.take n h2)
theorem Reps.drop : ∀ {vs : List Val} {xs : List V} (n : Nat), Reps T H U m vs xs → Reps T H U m (vs.drop n) (xs.drop n)
  | _, _, 0, h => h
  | [], _, n + 1, h => by cases h; exact .nil
  | _ :: _, _, n + 1, h => by
    cases h with
    | cons h1 h2 => exact Reps.drop n h2
theorem Reps.set {v : Val} {x : V} (r : Rep T H U m v x) : ∀ {vs : List Val} {xs : List V} (i : Nat), Reps T H U m vs xs → Reps T H U m (vs.set i v) (xs.set i x)
  | [], _, _, h => by cases h; exact .nil
  | _ :: _, _, 0, h => by
    cases h with
    | cons h1 h2 => exact .cons r h2
  | _ :: _, _, i + 1, h => by
    cases h with
    | cons h1 h2 => exact .cons h1 (Reps.set r i h2)
theorem Reps.reverse : ∀ {vs : List Val} {xs : List V}, Reps T H U m vs xs → Reps T H U m vs.reverse xs.reverse
  | [], _, h => by cases h; exact .nil
  | _ :: _, _, h => by
    cases h with
    | cons h1 h2 => simp only [List.reverse_cons]; exact Reps.append (Reps.reverse h2) (.cons h1 .nil)
theorem Reps.eraseIdx : ∀ {vs : List Val} {xs : List V} (i : Nat), Reps T H U m vs xs → Reps T H U m (vs.eraseIdx i) (xs.eraseIdx i)
  | [], _, _, h => by cases h; exact .nil
  | _ :: _, _, 0, h => by
    cases h with
    | cons h1 h2 => exact h2
  | _ :: _, _, i + 1, h => by
    cases h with
    | cons h1 h2 => exact .cons h1 (Reps.eraseIdx i h2)
end
end SW

namespace SW
open PySem PySem.Spec PyProof.Rows L2

/-! ### the interpreter's results -/
abbrev PH := List Val
abbrev Ev := List (Option Val)
inductive Res (α : Type) where
  | ok (a : α) (h : PH)
  | exc (e : Val) (h : PH)
  | stuck
abbrev SM (α : Type) := PH → Res α
def Res.bind {α β : Type} (r : Res α) (f : α → SM β) : Res β := match r with
  | .ok a h => f a h
  | .exc e h => .exc e h
  | .stuck => .stuck
/-- what raises within is told as stuck -/
def Res.noexc {α : Type} (r : Res α) : Res α := match r with
  | .ok a h => .ok a h
  | _ => .stuck
abbrev Ex := Ev → SM Val
def lift {α : Type} (o : Option α) : SM α := fun h => match o with
  | some a => .ok a h
  | none => .stuck

/-! ### the state -/
section
variable (T : Tab) (H : Hp) (U : Addr → Prop) (m : List (Option Addr))
/-- an object at a that may be written -/
def ObjAt (a : Addr) : Val → Prop
  | .lst vs => ∃ xs, H a = some (.lst xs) ∧ Reps T H U m vs xs ∧ vs.length ≤ sizeLine
  | .dct ks vs => (∃ kvs : List (Key × V), H a = some (.dK kvs) ∧ ks = kvs.map (fun p => kVal p.1) ∧ Reps T H U m vs (kvs.map (·.2))) ∨
      ∃ kvs : List (List Key × V), H a = some (.dT kvs) ∧ ks = Val.non :: kvs.map (fun p => Val.tup (p.1.map kVal)) ∧ Reps T H U m vs (kvs.map (·.2))
  | .ins c vs => ∃ dx xs, H a = some (.ins (T.cA c) dx ((T.cF c).zip xs)) ∧ xs.length ≤ (T.cF c).length ∧ Reps T H U m vs xs
  | _ => False
structure HR (h : PH) : Prop where
  len : m.length = h.length
  nd : ∀ (l k : Nat) (a : Addr), m[l]? = some (some a) → m[k]? = some (some a) → l = k
  sub : ∀ a, Lv m a → U a
  us : MutU H U
  obj : ∀ (l : Nat) (o : Val), h[l]? = some o → (m[l]? = some none ∧ o = .non) ∨ ∃ a, m[l]? = some (some a) ∧ ObjAt T H U m a o
structure ER (r : Ev) (σ : L2.St) : Prop where
  len : r.length = σ.length
  val : ∀ (i : Nat) (v : Val), r[i]? = some (some v) → ∃ x, σ[i]? = some (some x) ∧ Rep T H U m v x
/-- an exception: its class, its own dict -/
def ExR : Val → Value → Option Addr → Prop
  | .ins c [], cls, d => cls = .ref (T.cA c) ∧ d = none
  | .ins c [v], cls, d => cls = .ref (T.cA c) ∧ ∃ dd x f, d = some dd ∧ T.cF c = [f] ∧ H dd = some (.xd [(f, x)]) ∧ Rep T H U m v x
  | _, _, _ => False
end
section
variable {T : Tab} {H H' H2 : Hp} {U U' U2 : Addr → Prop} {m m' m2 : List (Option Addr)} {h h' : PH} {r : Ev} {σ : L2.St}
theorem ObjAt.some {a : Addr} {o : Val} (x : ObjAt T H U m a o) : ∃ u, H a = some u ∧ Mut (some u) := by
  cases o with
  | lst vs => obtain ⟨xs, e, _⟩ := x; exact ⟨_, e, True.intro⟩
  | dct ks vs =>
    rcases x with ⟨_, e, _⟩ | ⟨_, e, _⟩
    · exact ⟨_, e, True.intro⟩
    · exact ⟨_, e, True.intro⟩
  | ins c vs => obtain ⟨_, _, e, _⟩ := x; exact ⟨_, e, True.intro⟩
  | _ => exact x.elim
theorem HR.at {a : Addr} (x : HR T H U m h) (ha : Lv m a) : ∃ u, H a = some u ∧ Mut (some u) := by
  obtain ⟨i, e⟩ := ha
  have hl : i < h.length := by rw [← x.len]; exact (List.getElem?_eq_some_iff.mp e).1
  rcases x.obj i h[i] (List.getElem?_eq_getElem hl) with ⟨e1, _⟩ | ⟨b, e1, o⟩
  · rw [e] at e1; cases e1
  · rw [e] at e1
    cases e1
    exact o.some
theorem HR.ne (x : HR T H U m h) : ∀ b, Lv m b → H b ≠ none := fun b hb z => by
  obtain ⟨u, e, _⟩ := x.at hb
  rw [z] at e; cases e
theorem HR.rep (x : HR T H U m h) (g : Gr H U m H' U' m') {v : Val} {z : V} (q : Rep T H U m v z) : Rep T H' U' m' v z := Rep.gr (g.gw x.sub) x.us q
theorem HR.reps (x : HR T H U m h) (g : Gr H U m H' U' m') {v : List Val} {z : List V} (q : Reps T H U m v z) : Reps T H' U' m' v z := Reps.gr (g.gw x.sub) x.us q
theorem HR.env (x : HR T H U m h) (g : Gr H U m H' U' m') (e : ER T H U m r σ) : ER T H' U' m' r σ := ⟨e.len, fun i v q => by
  obtain ⟨z, e1, e2⟩ := e.val i v q
  exact ⟨z, e1, x.rep g e2⟩⟩
theorem HR.trans (x : HR T H U m h) (x' : HR T H' U' m' h') (g : Gr H U m H' U' m') (k : Gr H' U' m' H2 U2 m2) : Gr H U m H2 U2 m2 := g.trans k
theorem ObjAt.gw {a : Addr} {o : Val} (mu : MutU H U) (g : Gw H U m H' U' m') (e : H' a = H a) (q : ObjAt T H U m a o) : ObjAt T H' U' m' a o := by
  cases o with
  | lst vs => obtain ⟨xs, e1, e2, e3⟩ := q; exact ⟨xs, e.trans e1, Reps.gr g mu e2, e3⟩
  | dct ks vs =>
    rcases q with ⟨kvs, e1, e2, e3⟩ | ⟨kvs, e1, e2, e3⟩
    · exact .inl ⟨kvs, e.trans e1, e2, Reps.gr g mu e3⟩
    · exact .inr ⟨kvs, e.trans e1, e2, Reps.gr g mu e3⟩
  | ins c vs => obtain ⟨dx, xs, e1, e2, e3⟩ := q; exact ⟨dx, xs, e.trans e1, e2, Reps.gr g mu e3⟩
  | _ => exact q.elim
theorem ObjAt.gr {a : Addr} {o : Val} (x : HR T H U m h) (g : Gr H U m H' U' m') (e : H' a = H a) (q : ObjAt T H U m a o) : ObjAt T H' U' m' a o := q.gw x.us (g.gw x.sub) e
theorem HR.ext (x : HR T H U m h) (e : Ext H H') : HR T H' U m h := ⟨x.len, x.nd, x.sub, fun a ha => let ⟨u, e1, e2⟩ := x.us a ha; ⟨u, e a u e1, e2⟩, fun l o q => by
  rcases x.obj l o q with z | ⟨a, e1, e2⟩
  · exact .inl z
  · obtain ⟨u, h1, _⟩ := e2.some
    exact .inr ⟨a, e1, e2.gr x (Gr.of_ext e) ((e a u h1).trans h1.symm)⟩⟩
theorem HR.notin (x : HR T H U m h) {p : Addr} (hp : H p = none) : ¬ U p := fun z => by
  obtain ⟨u, e, _⟩ := x.us p z
  rw [hp] at e; cases e
theorem HR.notlv (x : HR T H U m h) {p : Addr} (hp : H p = none) : ¬ Lv m p := fun z => x.notin hp (x.sub p z)
def addU (U : Addr → Prop) (p : Addr) : Addr → Prop := fun a => U a ∨ a = p
theorem upd_there {p : Addr} {o : HO} : ∀ a, H a ≠ none → upd H p o a ≠ none := fun a ha => by
  by_cases e : a = p
  · subst e; rw [upd_same]; exact fun z => nomatch z
  · rw [upd_ne e]; exact ha
theorem lv_app {p a : Addr} (h : Lv (m ++ [some p]) a) : Lv m a ∨ a = p := by
  obtain ⟨l, e⟩ := h
  by_cases hl : l < m.length
  · rw [List.getElem?_append_left hl] at e; exact .inl ⟨l, e⟩
  · have : l = m.length := by
      have := (List.getElem?_eq_some_iff.mp e).1
      simp at this; omega
    subst this
    rw [List.getElem?_append_right (Nat.le_refl _)] at e
    simp at e; exact .inr e.symm
theorem Mg.push {p : Addr} (hp : H p = none) : Mg H m (m ++ [some p]) := ⟨by simp, fun l a hl e => by rw [List.getElem?_append_left hl] at e; exact e, fun l a hl e => by
  have : l = m.length := by
    have := (List.getElem?_eq_some_iff.mp e).1
    simp at this; omega
  subst this
  rw [List.getElem?_append_right (Nat.le_refl _)] at e
  simp at e; rw [← e]; exact hp⟩
/-- a new located object -/
theorem Gr.push {p : Addr} (o : HO) (hp : H p = none) : Gr H U m (upd H p o) (addU U p) (m ++ [some p]) :=
  ⟨fun a u _ e => by rw [upd_ne (ne_of_none e hp)]; exact e, fun a h => h.elim .inl fun e => .inr (by rw [e]; exact hp), .push hp, upd_there, fun _ h _ _ => .inl h⟩
/-- the state with one more located object, once its address is known to be writable -/
theorem HR.locate (x : HR T H U m h) {p : Addr} {v : Val} (hu : U p) (hm : ¬ Lv m p) (ho : ObjAt T H U m p v) : HR T H U (m ++ [some p]) (h ++ [v]) := by
  have gw : Gw H U m H U (m ++ [some p]) := ⟨fun _ _ _ e => e, fun _ z => .inl z, by simp, fun l a hl e => by rw [List.getElem?_append_left hl] at e; exact e⟩
  refine ⟨by simp [x.len], fun l k a e1 e2 => ?_, fun a ha => (lv_app ha).elim (x.sub a) fun e => e ▸ hu, x.us, fun l w q => ?_⟩
  · by_cases hl : l < m.length
    · rw [List.getElem?_append_left hl] at e1
      by_cases hk : k < m.length
      · rw [List.getElem?_append_left hk] at e2
        exact x.nd l k a e1 e2
      · rw [List.getElem?_append_right (by omega)] at e2
        have hk2 : k - m.length = 0 := by
          have := (List.getElem?_eq_some_iff.mp e2).1
          simp at this; omega
        rw [hk2] at e2; simp at e2
        exact absurd ⟨l, by rw [e2]; exact e1⟩ hm
    · by_cases hk : k < m.length
      · rw [List.getElem?_append_left hk] at e2
        rw [List.getElem?_append_right (by omega)] at e1
        have hl2 : l - m.length = 0 := by
          have := (List.getElem?_eq_some_iff.mp e1).1
          simp at this; omega
        rw [hl2] at e1; simp at e1
        exact absurd ⟨k, by rw [e1]; exact e2⟩ hm
      · have h1 := (List.getElem?_eq_some_iff.mp e1).1
        have h2 := (List.getElem?_eq_some_iff.mp e2).1
        simp at h1 h2; omega
  · by_cases hl : l < h.length
    · rw [List.getElem?_append_left hl] at q
      have hl' : l < m.length := by rw [x.len]; exact hl
      rcases x.obj l w q with ⟨e1, e2⟩ | ⟨a, e1, e2⟩
      · exact .inl ⟨by rw [List.getElem?_append_left hl']; exact e1, e2⟩
      · exact .inr ⟨a, by rw [List.getElem?_append_left hl']; exact e1, e2.gw x.us gw rfl⟩
    · have hl2 : l = h.length := by
        have := (List.getElem?_eq_some_iff.mp q).1
        simp at this; omega
      subst hl2
      rw [List.getElem?_append_right (Nat.le_refl _)] at q
      simp at q
      subst q
      exact .inr ⟨p, by rw [List.getElem?_append_right (by rw [x.len]; exact Nat.le_refl _), x.len]; simp, ho.gw x.us gw rfl⟩
/-- an address more that may be written, by nobody here -/
theorem growU {p : Addr} {o : HO} (hp : H p = none) : Gr H U m (upd H p o) (addU U p) m := ⟨fun a u _ e => by rw [upd_ne (ne_of_none e hp)]; exact e, fun a h => h.elim .inl fun e => .inr (by rw [e]; exact hp), .refl, upd_there, fun _ h _ _ => .inl h⟩
theorem HR.addU (x : HR T H U m h) {p : Addr} {o : HO} (hp : H p = none) (mu : Mut (some o)) : HR T (upd H p o) (addU U p) m h := by
  have hu := x.notin hp
  refine ⟨x.len, x.nd, fun a ha => .inl (x.sub a ha), fun a ha => ?_, fun l w q => ?_⟩
  · rcases ha with z | z
    · rw [upd_ne (fun e => hu (by rw [← e]; exact z))]; exact x.us a z
    · rw [z, upd_same]; exact ⟨_, rfl, mu⟩
  · rcases x.obj l w q with z | ⟨a, e1, e2⟩
    · exact .inl z
    · exact .inr ⟨a, e1, e2.gr x (growU hp) (upd_ne fun e => hu (by rw [← e]; exact x.sub a ⟨l, e1⟩))⟩
theorem HR.push (x : HR T H U m h) {p : Addr} {o : HO} {v : Val} (hp : H p = none) (mu : Mut (some o)) (ho : ObjAt T (upd H p o) (SW.addU U p) m p v) : HR T (upd H p o) (SW.addU U p) (m ++ [some p]) (h ++ [v]) :=
  (x.addU hp mu).locate (.inr rfl) (x.notlv hp) ho
/-- a located object is written -/
theorem Gr.write {a : Addr} {o : HO} (ha : Lv m a) : Gr H U m (upd H a o) U m :=
  ⟨fun b u hb e => by rw [upd_ne (fun z => hb (by rw [z]; exact ha))]; exact e, fun _ h => .inl h, .refl, upd_there, fun _ h _ _ => h⟩
theorem HR.write (x : HR T H U m h) {l : Nat} {a : Addr} {o : HO} {v : Val} (ha : m[l]? = some (some a)) (ho : ObjAt T (upd H a o) U m a v) : HR T (upd H a o) U m (h.set l v) := by
  have hm : Lv m a := ⟨l, ha⟩
  refine ⟨by simp [x.len], x.nd, x.sub, fun b hb => ?_, fun k w q => ?_⟩
  · by_cases e : b = a
    · subst e; exact ho.some
    · rw [upd_ne e]; exact x.us b hb
  · by_cases hk : l = k
    · subst hk
      rw [List.getElem?_set] at q
      by_cases hl : l < h.length
      · rw [if_pos rfl, if_pos hl] at q
        cases q
        exact .inr ⟨a, ha, ho⟩
      · rw [if_pos rfl, if_neg hl] at q; cases q
    · rw [List.getElem?_set_ne hk] at q
      rcases x.obj k w q with z | ⟨b, e1, e2⟩
      · exact .inl z
      · have hne : b ≠ a := fun e => by
          subst e
          exact hk (x.nd _ _ _ ha e1)
        exact .inr ⟨b, e1, e2.gr x (Gr.write hm) (upd_ne hne)⟩
theorem ER.set {i : Nat} {v : Val} {x : V} (e : ER T H U m r σ) (q : Rep T H U m v x) : ER T H U m (r.set i (some v)) (σ.set i (some x)) := by
  refine ⟨by simp [e.len], fun j w q' => ?_⟩
  by_cases hj : i = j
  · subst hj
    rw [List.getElem?_set] at q' ⊢
    by_cases hl : i < r.length
    · rw [if_pos rfl, if_pos hl] at q'
      cases q'
      rw [if_pos rfl, if_pos (by rw [← e.len]; exact hl)]
      exact ⟨x, rfl, q⟩
    · rw [if_pos rfl, if_neg hl] at q'
      cases q'
  · rw [List.getElem?_set_ne hj] at q' ⊢
    exact e.val j w q'
theorem ER.wipe (e : ER T H U m r σ) (i : Nat) : ER T H U m (r.set i none) (σ.set i none) := by
  refine ⟨by simp [e.len], fun j w q' => ?_⟩
  by_cases hj : i = j
  · subst hj
    rw [List.getElem?_set] at q'
    by_cases hl : i < r.length
    · rw [if_pos rfl, if_pos hl] at q'; cases q'
    · rw [if_pos rfl, if_neg hl] at q'; cases q'
  · rw [List.getElem?_set_ne hj] at q' ⊢
    exact e.val j w q'
end

/-! ### what is wanted behind a run -/
abbrev WC := Value → Option Addr → Hp → Prop
/-- the run's result r, from (H, U, m): Kq is wanted behind it, W of an exception -/
def Out {α : Type} (T : Tab) (H : Hp) (U : Addr → Prop) (m : List (Option Addr)) (W : WC) (r : Res α) (Kq : α → PH → Hp → (Addr → Prop) → List (Option Addr) → Prop) : Prop := match r with
  | .ok a h' => ∀ H' U' m', Gr H U m H' U' m' → HR T H' U' m' h' → Kq a h' H' U' m'
  | .exc e h' => ∀ H' U' m' cls d, Gr H U m H' U' m' → HR T H' U' m' h' → ExR T H' U' m' e cls d → W cls d H'
  | .stuck => False
section
variable {T : Tab} {H H' : Hp} {U U' : Addr → Prop} {m m' : List (Option Addr)} {W : WC} {α β : Type}
theorem Out.bind {h : PH} {r : Res α} {f : α → SM β} {Kq : β → PH → Hp → (Addr → Prop) → List (Option Addr) → Prop} (hr : HR T H U m h) (o : Out T H U m W (r.bind f) Kq) :
    Out T H U m W r (fun a h' H' U' m' => Out T H' U' m' W (f a h') Kq) := by
  cases r with
  | ok a h' =>
    intro H1 U1 m1 g hr1
    have o : Out T H U m W (f a h') Kq := o
    show Out T H1 U1 m1 W (f a h') Kq
    cases e : f a h' with
    | ok b h2 =>
      rw [e] at o
      exact fun H2 U2 m2 g2 hr2 => o H2 U2 m2 (hr.trans hr1 g g2) hr2
    | exc b h2 =>
      rw [e] at o
      exact fun H2 U2 m2 cls d g2 hr2 => o H2 U2 m2 cls d (hr.trans hr1 g g2) hr2
    | stuck =>
      rw [e] at o
      exact o
  | exc e h' => exact o
  | stuck => exact o
theorem Out.mono {r : Res α} {K1 K2 : α → PH → Hp → (Addr → Prop) → List (Option Addr) → Prop} (o : Out T H U m W r K1) (k : ∀ a h' H' U' m', Gr H U m H' U' m' → HR T H' U' m' h' → K1 a h' H' U' m' → K2 a h' H' U' m') : Out T H U m W r K2 := by
  cases r with
  | ok a h' => exact fun H' U' m' g hr => k a h' H' U' m' g hr (o H' U' m' g hr)
  | exc e h' => exact o
  | stuck => exact o
/-- the same run, from a heap with more in it -/
theorem Out.step {h : PH} {r : Res α} {Kq : α → PH → Hp → (Addr → Prop) → List (Option Addr) → Prop} (hr : HR T H U m h) {h1 : PH} (hr1 : HR T H' U' m' h1) (g : Gr H U m H' U' m') (o : Out T H U m W r Kq) : Out T H' U' m' W r Kq := by
  cases r with
  | ok a h' => exact fun H2 U2 m2 g2 hr2 => o H2 U2 m2 (hr.trans hr1 g g2) hr2
  | exc e h' => exact fun H2 U2 m2 cls d g2 hr2 => o H2 U2 m2 cls d (hr.trans hr1 g g2) hr2
  | stuck => exact o
theorem Out.noexc {r : Res α} {Kq : α → PH → Hp → (Addr → Prop) → List (Option Addr) → Prop} {W' : WC} (o : Out T H U m W r.noexc Kq) : Out T H U m W' r Kq := by
  cases r with
  | ok a h' => exact o
  | exc e h' => exact (show False from o).elim
  | stuck => exact o
end

/-! ### the contexts -/
/-- an exception that leaves a callee, wished for by W, is wished for by the context -/
def Tk (X : Cx) (W : WC) : Prop := ∀ (pins : List (Addr × Obj)) (σ : L2.St) (H : Hp) (s : Shared) (e : Value) (s' : Shared) (E : XK), (∀ cls d H', E cls d H' → W cls d H') → Inv X pins σ H s → L2.CX X.prog X.w X.stack H s E e s' → X.xe e s'
structure XOk (T : Tab) (X : Cx) : Prop where
  k : X.K = T.K
  calm : X.calm = true
  nd : X.N.Nodup
  un : X.A.units + 100 < cLine
  hd : X.A.handled = none
theorem Tk.of_takes {X : Cx} {W : WC} (t : Takes X fun c d _ H => W c d H) : Tk X W := fun _ σ H _ _ _ E hE I c =>
  t _ _ (XE.of_call (W := fun c d _ H => W c d H) I hE c)
theorem Tk.none (X : Cx) : Tk X fun _ _ _ => False := fun _ _ _ _ _ _ _ hE _ c => by
  obtain ⟨_, _, _, _, _, _, _, _, _, _, _, _, q⟩ := c
  exact (hE _ _ _ q).elim
theorem pe_imp {X : Cx} {e : Expr} {t t' : TE} (p : PE X e t) (h : ∀ σ H Q, t' σ H Q → t σ H Q) : PE X e t' := ⟨fun pins s σ H Q I q => p.run pins s σ H Q I (h σ H Q q)⟩
theorem pt_imp {X : Cx} {e : Expr} {t t' : TT} (p : PT X e t) (h : ∀ σ H Q, t' σ H Q → t σ H Q) : PT X e t' := ⟨fun pins s σ H Q I q => p.run pins s σ H Q I (h σ H Q q)⟩
theorem pw_imp {X : Cx} {e : Expr} {t t' : TT} (p : PW X e t) (h : ∀ σ H Q, t' σ H Q → t σ H Q) : PW X e t' := ⟨fun wh pins s σ H Q I q => p.run wh pins s σ H Q I (h σ H Q q)⟩
theorem pa_imp {X : Cx} {e : List Expr} {t t' : TA} (p : PA X e t) (h : ∀ σ H Q, t' σ H Q → t σ H Q) : PA X e t' := ⟨fun pos pins s σ H Q I q => p.run pos pins s σ H Q I (h σ H Q q)⟩
theorem ps_imp {X : Cx} {e : Stmt} {t t' : TS} (p : PS X e t) (h : ∀ D σ H, t' D σ H → t D σ H) : PS X e t' := ⟨fun pins s σ H D I q => p.run pins s σ H D I (h D σ H q)⟩
theorem pss_imp {X : Cx} {e : List Stmt} {t t' : TS} (p : PSs X e t) (h : ∀ D σ H, t' D σ H → t D σ H) : PSs X e t' := ⟨fun pins s σ H D I q => p.run pins s σ H D I (h D σ H q)⟩
theorem pg_imp {X : Cx} {e : Expr} {t t' : TG} (p : PG X e t) (h : ∀ v σ H Q, t' v σ H Q → t v σ H Q) : PG X e t' := ⟨fun pins s σ H v u Q I r q => p.run pins s σ H v u Q I r (h v σ H Q q)⟩
theorem pi_imp {X : Cx} {tg e : Expr} {t t' : TI} (p : PI X tg e t) (h : ∀ σ H R, t' σ H R → t σ H R) : PI X tg e t' := ⟨fun pins s σ H R I q => p.run pins s σ H R I (h σ H R q)⟩

/-! ### expressions -/
/-- the state here, the run's result, what is wanted -/
def tE (T : Tab) (W : WC) (me : Ex) : TE := fun σ H Q => ∃ U m r h, HR T H U m h ∧ ER T H U m r σ ∧ Out T H U m W (me r h) fun v _ H' U' m' => ∀ x, Rep T H' U' m' v x → Q x H'
def CE (T : Tab) (X : Cx) (e : Expr) (me : Ex) : Prop := XOk T X → ∀ W, Tk X W → PE X e (tE T W me)
/-- the next step: from a run that begins with me -/
theorem tE_then {T : Tab} {W : WC} {me : Ex} {β : Type} {f : Val → SM β} {Kq : β → PH → Hp → (Addr → Prop) → List (Option Addr) → Prop} {σ : L2.St} {H : Hp} {U : Addr → Prop} {m : List (Option Addr)} {r : Ev} {h : PH} (hr : HR T H U m h) (er : ER T H U m r σ) (o : Out T H U m W ((me r h).bind f) Kq)
    {Q : VK} (k : ∀ x H1 U1 m1 h1 v, Gr H U m H1 U1 m1 → HR T H1 U1 m1 h1 → ER T H1 U1 m1 r σ → Rep T H1 U1 m1 v x → Out T H1 U1 m1 W (f v h1) Kq → Q x H1) : tE T W me σ H Q :=
  ⟨U, m, r, h, hr, er, (o.bind hr).mono fun v h1 H1 U1 m1 g hr1 o1 x rx => k x H1 U1 m1 h1 v g hr1 (hr.env g er) rx o1⟩
/-- a pure run: nothing is written, the heap may grow -/
theorem Out.pure {T : Tab} {H H' : Hp} {U : Addr → Prop} {m : List (Option Addr)} {W : WC} {o : Option Val} {h : PH} {v : Val} {Kq : Val → PH → Hp → (Addr → Prop) → List (Option Addr) → Prop} (hr : HR T H U m h) (q : Out T H U m W (lift o h) Kq) (e : Ext H H') (ev : o = some v) : Kq v h H' U m := by
  subst ev
  exact q H' U m (Gr.of_ext e) (hr.ext e)
theorem Out.lift_some {α : Type} {T : Tab} {H : Hp} {U : Addr → Prop} {m : List (Option Addr)} {W : WC} {o : Option α} {h : PH} {Kq : α → PH → Hp → (Addr → Prop) → List (Option Addr) → Prop} (q : Out T H U m W (lift o h) Kq) : ∃ v, o = some v := by
  cases o with
  | none => exact (show False from q).elim
  | some v => exact ⟨v, rfl⟩

def eVar (i : Nat) : Ex := fun r h => lift (r.getD i none) h
def eC (v : Val) : Ex := fun _ h => .ok v h
def eBin (g : PH → Val → Val → Option Val) (a b : Ex) : Ex := fun r h => (a r h).bind fun x h1 => (b r h1).bind fun y h2 => lift (g h2 x y) h2
def eUn (g : PH → Val → Option Val) (a : Ex) : Ex := fun r h => (a r h).bind fun x h1 => lift (g h1 x) h1
section
variable {T : Tab} {X : Cx} {pos : Pos} {a b c e : Expr} {ma mb mc me : Ex}
theorem ce_var (i : Nat) {x : Str} (hN : X.N[i]? = some x := by rfl) (hv : Vis X.env.scope x := by first | exact Or.inl rfl | exact Or.inr (Or.inl rfl) | exact Or.inr (Or.inr rfl)) (hd : (x == ("__debug__" : Str)) = false := by decide)
    (hcd : (x == ("__classdict__" : Str)) = false := by decide) : CE T X (.Name x pos) (eVar i) := fun _ W tk => pe_imp (pe_var hN hv hd hcd) fun σ H Q ⟨U, m, r, h, hr, er, o⟩ => by
  obtain ⟨v, e⟩ := Out.lift_some o
  have e1 : r[i]? = some (some v) := by
    rw [List.getD_eq_getElem?_getD] at e
    cases q : r[i]? with
    | none => rw [q] at e; cases e
    | some z => rw [q] at e; exact congrArg some e
  obtain ⟨x, e2, rx⟩ := er.val i v e1
  exact ⟨x, e2, Out.pure hr o (fun _ _ h => h) e x rx⟩
theorem ce_const {x : V} {v : Val} (p : PE X e (tC x)) (hv : ∀ H U m, Rep T H U m v x) : CE T X e (eC v) := fun _ W tk => pe_imp p fun σ H Q ⟨U, m, r, h, hr, er, o⟩ =>
  o H U m .refl hr x (hv H U m)
theorem ce_int {i : Int} {j} : CE T X (.Constant (.int i) j pos) (eC (.int i)) := ce_const pe_int fun _ _ _ => .int i
theorem ce_bl {b : Bool} {j} : CE T X (.Constant (.bool b) j pos) (eC (.bl b)) := ce_const pe_bl fun _ _ _ => .bl b
theorem ce_non {j} : CE T X (.Constant .none j pos) (eC .non) := ce_const pe_non fun _ _ _ => .non
theorem ce_str {x : Str} {j} : CE T X (.Constant (.str x) j pos) (eC (.str x)) := ce_const pe_str fun _ _ _ => .str x
/-- a rule r for an operation on values is met by g -/
def Op2 (T : Tab) (r : R2) (g : PH → Val → Val → Option Val) : Prop := ∀ {H : Hp} {U : Addr → Prop} {m : List (Option Addr)} {h : PH} {x y : Val} {xv yv : V} {v : Val} {Q : VK}, HR T H U m h → Rep T H U m x xv → Rep T H U m y yv → g h x y = some v → (∀ z H', Ext H H' → Rep T H' U m v z → Q z H') → r xv yv H Q
def Op1 (T : Tab) (r : V → Hp → VK → Prop) (g : PH → Val → Option Val) : Prop := ∀ {H : Hp} {U : Addr → Prop} {m : List (Option Addr)} {h : PH} {x : Val} {xv : V} {v : Val} {Q : VK}, HR T H U m h → Rep T H U m x xv → g h x = some v → (∀ z H', Ext H H' → Rep T H' U m v z → Q z H') → r xv H Q
theorem op2_run {r : R2} {g : PH → Val → Val → Option Val} (hg : Op2 T r g) {W : WC} {σ : L2.St} {H : Hp} {Q : VK} (q : tE T W (eBin g ma mb) σ H Q) : tOp r (tE T W ma) (tE T W mb) σ H Q := by
  obtain ⟨U, m, ρ, h, hr, er, o⟩ := q
  refine tE_then hr er o fun x H1 U1 m1 h1 v g1 hr1 er1 rx o1 => ?_
  refine tE_then hr1 er1 o1 fun y H2 U2 m2 h2 w g2 hr2 er2 ry o2 => ?_
  obtain ⟨z, ez⟩ := Out.lift_some o2
  exact hg hr2 (hr1.rep g2 rx) ry ez fun z' H' ex rz => Out.pure hr2 o2 ex ez z' rz
theorem ce_op {op : Operator} {r : R2} {g : PH → Val → Val → Option Val} (ho : OpR X (binaryOp op) r) (hg : Op2 T r g) (ha : CE T X a ma) (hb : CE T X b mb) : CE T X (.BinOp a op b pos) (eBin g ma mb) := fun ok W tk =>
  pe_imp (pe_op ho (ha ok W tk) (hb ok W tk)) fun σ H Q q => op2_run hg q
theorem ce_cmp {op : CmpOp} {r : R2} {g : PH → Val → Val → Option Val} (ho : OpR X (compareOp op) r) (hg : Op2 T r g) (ha : CE T X a ma) (hb : CE T X b mb) (hm : behindInMarks op b = false) : CE T X (.Compare a [op] [b] pos) (eBin g ma mb) := fun ok W tk =>
  pe_imp (pe_cmpR ho (ha ok W tk) (hb ok W tk) hm) fun σ H Q q => op2_run hg q
theorem op1_run {r : V → Hp → VK → Prop} {g : PH → Val → Option Val} (hg : Op1 T r g) {W : WC} {σ : L2.St} {H : Hp} {Q : VK} (q : tE T W (eUn g ma) σ H Q) : tE T W ma σ H (fun x H1 => r x H1 Q) := by
  obtain ⟨U, m, ρ, h, hr, er, o⟩ := q
  refine tE_then hr er o fun x H1 U1 m1 h1 v g1 hr1 er1 rx o1 => ?_
  obtain ⟨z, ez⟩ := Out.lift_some o1
  exact hg hr1 rx ez fun z' H' ex rz => Out.pure hr1 o1 ex ez z' rz
theorem ce_un {op : UnaryOp} {r : V → Hp → VK → Prop} {g : PH → Val → Option Val} (ho : UnR X (unaryOp op) r) (hg : Op1 T r g) (ha : CE T X a ma) : CE T X (.UnaryOp op a pos) (eUn g ma) := fun ok W tk =>
  pe_imp (pe_un ho (ha ok W tk)) fun σ H Q q => op1_run hg q
end
end SW

namespace SW
open PySem PySem.Spec PyProof.Rows L2

/-! ### data: values without dicts, instances, located objects -/
mutual
def toD : Val → PyData
  | .non => .none
  | .bl b => .bool b
  | .int i => .int i
  | .str x => .str x
  | .tup xs => .tuple (toDs xs)
  | .lst xs => .list (toDs xs)
  | .dct _ _ => .none
  | .ins _ _ => .none
  | .ref _ => .none
def toDs : List Val → List PyData
  | [] => []
  | x :: xs => toD x :: toDs xs
end
mutual
/-- data, at most so deep -/
def dat : Val → Nat → Bool
  | .non, _ => true
  | .bl _, _ => true
  | .int _, _ => true
  | .str _, _ => true
  | .tup xs, n => match n with | 0 => false | n + 1 => dats xs n
  | .lst xs, n => match n with | 0 => false | n + 1 => dats xs n
  | .dct _ _, _ => false
  | .ins _ _, _ => false
  | .ref _, _ => false
def dats : List Val → Nat → Bool
  | [], _ => true
  | x :: xs, n => dat x n && dats xs n
end
mutual
/-- Python's == of data -/
def veq : Val → Val → Bool
  | .non, y => match y with | .non => true | _ => false
  | .bl a, y => match y with | .bl b => a == b | .int j => (if a then 1 else 0) == j | _ => false
  | .int i, y => match y with | .int j => i == j | .bl b => i == (if b then 1 else 0) | _ => false
  | .str x, y => match y with | .str z => x == z | _ => false
  | .tup xs, y => match y with | .tup ys => veqs xs ys | _ => false
  | .lst xs, y => match y with | .lst ys => veqs xs ys | _ => false
  | .dct _ _, _ => false
  | .ins _ _, _ => false
  | .ref _, _ => false
def veqs : List Val → List Val → Bool
  | [], ys => match ys with | [] => true | _ :: _ => false
  | x :: xs, ys => match ys with | [] => false | y :: ys => veq x y && veqs xs ys
end
mutual
/-- the two can be ordered -/
def valike : Val → Val → Bool
  | .non, y => match y with | .non => true | _ => false
  | .bl _, y => match y with | .bl _ => true | _ => false
  | .int _, y => match y with | .int _ => true | _ => false
  | .str _, y => match y with | .str _ => true | _ => false
  | .tup xs, y => match y with | .tup ys => valikes xs ys | _ => false
  | .lst xs, y => match y with | .lst ys => valikes xs ys | _ => false
  | .dct _ _, _ => false
  | .ins _ _, _ => false
  | .ref _, _ => false
def valikes : List Val → List Val → Bool
  | [], _ => true
  | x :: xs, ys => match ys with | [] => true | y :: ys => valike x y && valikes xs ys
end
mutual
/-- Python's < of data that are alike -/
def vlt : Val → Val → Bool
  | .bl a, y => match y with | .bl b => !a && b | _ => false
  | .int i, y => match y with | .int j => decide (i < j) | _ => false
  | .str x, y => match y with | .str z => decide (x.cps.toList < z.cps.toList) | _ => false
  | .tup xs, y => match y with | .tup ys => vlts xs ys | _ => false
  | .lst xs, y => match y with | .lst ys => vlts xs ys | _ => false
  | .non, _ => false
  | .dct _ _, _ => false
  | .ins _ _, _ => false
  | .ref _, _ => false
def vlts : List Val → List Val → Bool
  | [], ys => match ys with | [] => false | _ :: _ => true
  | x :: xs, ys => match ys with | [] => false | y :: ys => if veq x y then vlts xs ys else vlt x y
end
/-- a located list, read -/
def view (h : PH) : Val → Val
  | .ref l => match h[l]? with | some (.lst xs) => .lst xs | some (.dct ks vs) => .dct ks vs | _ => .ref l
  | v => v

mutual
theorem dat_plain : ∀ (v : Val) (n : Nat), dat v n = true → (toD v).plain = true ∧ (toD v).depth ≤ n
  | .non, n, _ => ⟨by simp only [toD, PyData.plain], by simp only [toD, PyData.depth]; omega⟩
  | .bl _, n, _ => ⟨by simp only [toD, PyData.plain], by simp only [toD, PyData.depth]; omega⟩
  | .int _, n, _ => ⟨by simp only [toD, PyData.plain], by simp only [toD, PyData.depth]; omega⟩
  | .str _, n, _ => ⟨by simp only [toD, PyData.plain], by simp only [toD, PyData.depth]; omega⟩
  | .tup xs, 0, h => by simp [dat] at h
  | .tup xs, n + 1, h => by
    obtain ⟨h1, h2⟩ := dats_plain xs n (by simpa only [dat] using h)
    exact ⟨by simpa only [toD, PyData.plain] using h1, by simp only [toD, PyData.depth]; omega⟩
  | .lst xs, 0, h => by simp [dat] at h
  | .lst xs, n + 1, h => by
    obtain ⟨h1, h2⟩ := dats_plain xs n (by simpa only [dat] using h)
    exact ⟨by simpa only [toD, PyData.plain] using h1, by simp only [toD, PyData.depth]; omega⟩
  | .dct _ _, _, h => by simp [dat] at h
  | .ins _ _, _, h => by simp [dat] at h
  | .ref _, _, h => by simp [dat] at h
theorem dats_plain : ∀ (v : List Val) (n : Nat), dats v n = true → PyData.plainAll (toDs v) = true ∧ PyData.depthAll (toDs v) ≤ n
  | [], n, _ => ⟨by simp only [toDs, PyData.plainAll], by simp only [toDs, PyData.depthAll]; omega⟩
  | x :: xs, n, h => by
    simp only [dats, Bool.and_eq_true] at h
    obtain ⟨a1, a2⟩ := dat_plain x n h.1
    obtain ⟨b1, b2⟩ := dats_plain xs n h.2
    exact ⟨by simp only [toDs, PyData.plainAll, a1, b1, Bool.and_self], by simp only [toDs, PyData.depthAll]; omega⟩
end
mutual
theorem veq_ok : ∀ (x y : Val) (n m : Nat), dat x n = true → dat y m = true → PyData.eqv (toD x) (toD y) = veq x y
  | .non, y, n, m, hx, hy => by cases y <;> simp_all [toD, dat, veq, PyData.eqv]
  | .bl _, y, n, m, hx, hy => by cases y <;> simp_all [toD, dat, veq, PyData.eqv]
  | .int _, y, n, m, hx, hy => by cases y <;> simp_all [toD, dat, veq, PyData.eqv]
  | .str _, y, n, m, hx, hy => by cases y <;> simp_all [toD, dat, veq, PyData.eqv]
  | .tup xs, y, 0, m, hx, hy => by simp [dat] at hx
  | .tup xs, y, n + 1, m, hx, hy => by
    cases y with
    | tup ys =>
      cases m with
      | zero => simp [dat] at hy
      | succ m =>
        simp only [toD, veq, PyData.eqv]
        exact veqs_ok xs ys n m (by simpa only [dat] using hx) (by simpa only [dat] using hy)
    | _ => simp_all [toD, dat, veq, PyData.eqv]
  | .lst xs, y, 0, m, hx, hy => by simp [dat] at hx
  | .lst xs, y, n + 1, m, hx, hy => by
    cases y with
    | lst ys =>
      cases m with
      | zero => simp [dat] at hy
      | succ m =>
        simp only [toD, veq, PyData.eqv]
        exact veqs_ok xs ys n m (by simpa only [dat] using hx) (by simpa only [dat] using hy)
    | _ => simp_all [toD, dat, veq, PyData.eqv]
  | .dct _ _, _, _, _, h, _ => by simp [dat] at h
  | .ins _ _, _, _, _, h, _ => by simp [dat] at h
  | .ref _, _, _, _, h, _ => by simp [dat] at h
theorem veqs_ok : ∀ (x y : List Val) (n m : Nat), dats x n = true → dats y m = true → PyData.eqvAll (toDs x) (toDs y) = veqs x y
  | [], y, n, m, hx, hy => by cases y <;> simp [toDs, veqs, PyData.eqvAll]
  | x :: xs, [], n, m, hx, hy => by simp [toDs, veqs, PyData.eqvAll]
  | x :: xs, y :: ys, n, m, hx, hy => by
    simp only [dats, Bool.and_eq_true] at hx hy
    simp only [toDs, veqs, PyData.eqvAll]
    rw [veq_ok x y n m hx.1 hy.1, veqs_ok xs ys n m hx.2 hy.2]
end
mutual
theorem valike_ok : ∀ (x y : Val) (n m : Nat), dat x n = true → dat y m = true → W.alike (toD x) (toD y) = valike x y
  | .non, y, n, m, hx, hy => by cases y <;> simp_all [toD, dat, valike, W.alike]
  | .bl _, y, n, m, hx, hy => by cases y <;> simp_all [toD, dat, valike, W.alike]
  | .int _, y, n, m, hx, hy => by cases y <;> simp_all [toD, dat, valike, W.alike]
  | .str _, y, n, m, hx, hy => by cases y <;> simp_all [toD, dat, valike, W.alike]
  | .tup xs, y, 0, m, hx, hy => by simp [dat] at hx
  | .tup xs, y, n + 1, m, hx, hy => by
    cases y with
    | tup ys =>
      cases m with
      | zero => simp [dat] at hy
      | succ m =>
        simp only [toD, valike, W.alike]
        exact valikes_ok xs ys n m (by simpa only [dat] using hx) (by simpa only [dat] using hy)
    | _ => simp_all [toD, dat, valike, W.alike]
  | .lst xs, y, 0, m, hx, hy => by simp [dat] at hx
  | .lst xs, y, n + 1, m, hx, hy => by
    cases y with
    | lst ys =>
      cases m with
      | zero => simp [dat] at hy
      | succ m =>
        simp only [toD, valike, W.alike]
        exact valikes_ok xs ys n m (by simpa only [dat] using hx) (by simpa only [dat] using hy)
    | _ => simp_all [toD, dat, valike, W.alike]
  | .dct _ _, _, _, _, h, _ => by simp [dat] at h
  | .ins _ _, _, _, _, h, _ => by simp [dat] at h
  | .ref _, _, _, _, h, _ => by simp [dat] at h
theorem valikes_ok : ∀ (x y : List Val) (n m : Nat), dats x n = true → dats y m = true → W.alikeAll (toDs x) (toDs y) = valikes x y
  | [], y, n, m, hx, hy => by cases y <;> simp [toDs, valikes, W.alikeAll]
  | x :: xs, [], n, m, hx, hy => by simp [toDs, valikes, W.alikeAll]
  | x :: xs, y :: ys, n, m, hx, hy => by
    simp only [dats, Bool.and_eq_true] at hx hy
    simp only [toDs, valikes, W.alikeAll]
    rw [valike_ok x y n m hx.1 hy.1, valikes_ok xs ys n m hx.2 hy.2]
end
mutual
theorem vlt_ok : ∀ (x y : Val) (n m : Nat), dat x n = true → dat y m = true → valike x y = true → x ≠ .non → W.dataLt (toD x) (toD y) = vlt x y
  | .non, y, n, m, hx, hy, ha, hn => absurd rfl hn
  | .bl a, y, n, m, hx, hy, ha, hn => by
    cases y <;> simp_all [toD, dat, vlt, valike]
    rename_i b
    rw [W.dataLt_bool]
    cases a <;> cases b <;> rfl
  | .int _, y, n, m, hx, hy, ha, hn => by
    cases y <;> simp_all [toD, dat, vlt, valike]
    rw [W.dataLt_int]
  | .str _, y, n, m, hx, hy, ha, hn => by
    cases y with
    | str z => simp only [toD, vlt]; exact W.dataLt_str _ _
    | _ => simp_all [valike]
  | .tup xs, y, 0, m, hx, hy, ha, hn => by simp [dat] at hx
  | .tup xs, y, n + 1, m, hx, hy, ha, hn => by
    cases y with
    | tup ys =>
      cases m with
      | zero => simp [dat] at hy
      | succ m =>
        simp only [toD, vlt]
        rw [W.dataLt_tuple]
        exact vlts_ok xs ys n m (by simpa only [dat] using hx) (by simpa only [dat] using hy) (by simpa only [valike] using ha)
    | _ => simp_all [valike]
  | .lst xs, y, 0, m, hx, hy, ha, hn => by simp [dat] at hx
  | .lst xs, y, n + 1, m, hx, hy, ha, hn => by
    cases y with
    | lst ys =>
      cases m with
      | zero => simp [dat] at hy
      | succ m =>
        simp only [toD, vlt]
        rw [W.dataLt_list]
        exact vlts_ok xs ys n m (by simpa only [dat] using hx) (by simpa only [dat] using hy) (by simpa only [valike] using ha)
    | _ => simp_all [valike]
  | .dct _ _, _, _, _, h, _, _, _ => by simp [dat] at h
  | .ins _ _, _, _, _, h, _, _, _ => by simp [dat] at h
  | .ref _, _, _, _, h, _, _, _ => by simp [dat] at h
theorem vlts_ok : ∀ (x y : List Val) (n m : Nat), dats x n = true → dats y m = true → valikes x y = true → PyProof.Rows.lexLt itemOrd (W.keyToksAll (toDs x)) (W.keyToksAll (toDs y)) = vlts x y
  | [], y, n, m, hx, hy, ha => by
    cases y with
    | nil => simp only [toDs, vlts, W.keyToksAll]; rfl
    | cons y ys => simp only [toDs, vlts, W.keyToksAll]; rfl
  | x :: xs, [], n, m, hx, hy, ha => by simp only [toDs, vlts, W.keyToksAll]; rfl
  | x :: xs, y :: ys, n, m, hx, hy, ha => by
    simp only [dats, Bool.and_eq_true] at hx hy
    simp only [valikes, Bool.and_eq_true] at ha
    simp only [toDs, vlts]
    have hal : W.alike (toD x) (toD y) = true := by rw [valike_ok x y n m hx.1 hy.1]; exact ha.1
    have he := veq_ok x y n m hx.1 hy.1
    cases e : veq x y with
    | true =>
      rw [e] at he
      rw [if_pos rfl, W.dataLt_all_yes hal he]
      exact vlts_ok xs ys n m hx.2 hy.2 ha.2
    | false =>
      rw [e] at he
      rw [if_neg Bool.false_ne_true, W.dataLt_all_no hal he]
      refine vlt_ok x y n m hx.1 hy.1 ha.1 fun z => ?_
      subst z
      cases y <;> simp_all [valike, veq]
end
end SW

namespace SW
open PySem PySem.Spec PyProof.Rows L2

/-! ### data of the interpreter on the heap -/
section
variable {T : Tab} {H : Hp} {U : Addr → Prop} {m : List (Option Addr)}
mutual
theorem Rep.dp : ∀ (v : Val) (n : Nat) (x : V), dat v n = true → Rep T H U m v x → Dp T.K H x (toD v)
  | .non, n, x, _, r => by cases r; simp only [toD]; exact .non
  | .bl _, n, x, _, r => by cases r; simp only [toD]; exact .bl _
  | .int _, n, x, _, r => by cases r; simp only [toD]; exact .int _
  | .str _, n, x, _, r => by cases r; simp only [toD]; exact .str _
  | .tup xs, 0, x, d, r => by simp [dat] at d
  | .tup xs, n + 1, x, d, r => by
    cases r with
    | tup h0 h1 h2 => simp only [toD]; exact .tup h1 (Reps.dp xs n _ (by simpa only [dat] using d) h2)
  | .lst xs, 0, x, d, r => by simp [dat] at d
  | .lst xs, n + 1, x, d, r => by
    cases r with
    | lst h0 h1 h2 h3 => simp only [toD]; exact .lst (.inl (.inl h1)) (Reps.dp xs n _ (by simpa only [dat] using d) h3)
  | .dct _ _, _, _, d, _ => by simp [dat] at d
  | .ins _ _, _, _, d, _ => by simp [dat] at d
  | .ref _, _, _, d, _ => by simp [dat] at d
theorem Reps.dp : ∀ (v : List Val) (n : Nat) (x : List V), dats v n = true → Reps T H U m v x → DpAll T.K H x (toDs v)
  | [], n, x, _, r => by cases r; simp only [toDs]; exact .nil
  | v :: vs, n, x, d, r => by
    cases r with
    | cons h1 h2 =>
      simp only [dats, Bool.and_eq_true] at d
      simp only [toDs]
      exact .cons (Rep.dp v n _ d.1 h1) (Reps.dp vs n _ d.2 h2)
end
theorem view_dp {h : PH} {v : Val} {x : V} {n : Nat} (hr : HR T H U m h) (r : Rep T H U m v x) (d : dat (view h v) n = true) : Dp T.K H x (toD (view h v)) := by
  cases v with
  | ref l =>
    cases r with
    | ref hl e =>
      cases q : h[l]? with
      | none => simp [view, q, dat] at d
      | some o =>
        rcases hr.obj l o q with ⟨_, e0⟩ | ⟨a, e1, ob⟩
        · subst e0; simp [view, q, dat] at d
        obtain rfl := e a e1
        cases o with
        | lst xs =>
          obtain ⟨ys, e2, rs, _⟩ := ob
          simp only [view, q] at d ⊢
          cases n with
          | zero => simp [dat] at d
          | succ n => simp only [toD]; exact .lst (.inl (.inl e2)) (Reps.dp xs n _ (by simpa only [dat] using d) rs)
        | _ => simp [view, q, dat] at d
  | _ => exact Rep.dp _ n _ d r
/-- a list or tuple, as it is read -/
theorem view_lst {h : PH} {v : Val} {x : V} {vs : List Val} (hr : HR T H U m h) (r : Rep T H U m v x) (d : view h v = .lst vs) : ∃ a xs, x = .ref a ∧ H a = some (.lst xs) ∧ Reps T H U m vs xs ∧ vs.length ≤ sizeLine := by
  cases v with
  | ref l =>
    cases r with
    | ref hl e =>
      cases q : h[l]? with
      | none => simp [view, q] at d
      | some o =>
        rcases hr.obj l o q with ⟨_, e0⟩ | ⟨a, e1, ob⟩
        · subst e0; simp [view, q, dat] at d
        obtain rfl := e a e1
        cases o with
        | lst xs =>
          obtain ⟨ys, e2, rs, hz⟩ := ob
          simp only [view, q] at d
          cases d
          exact ⟨_, ys, rfl, e2, rs, hz⟩
        | _ => simp [view, q] at d
  | lst xs =>
    simp only [view] at d
    cases d
    cases r with
    | lst h0 h1 h2 h3 => exact ⟨_, _, rfl, h1, h3, h0⟩
  | _ => simp [view] at d
theorem view_tup {h : PH} {v : Val} {x : V} {vs : List Val} (r : Rep T H U m v x) (d : view h v = .tup vs) : ∃ a xs, x = .ref a ∧ SqT T.K H a xs ∧ Reps T H U m vs xs ∧ vs.length ≤ sizeLine := by
  cases v with
  | ref l => cases q : h[l]? with
    | none => simp [view, q] at d
    | some o => cases o <;> simp [view, q] at d
  | tup xs =>
    simp only [view] at d
    cases d
    cases r with
    | tup h0 h1 h2 => exact ⟨_, _, rfl, h1, h2, h0⟩
  | _ => simp [view] at d
end

/-! ### operations on values -/
section
variable (T : Tab) (X : Cx)
abbrev EPG (pins : List (Addr × Obj)) (σ : L2.St) (H : Hp) (U : Addr → Prop) (m : List (Option Addr)) (z : Val) : Value → Shared → Prop := EP X pins σ (fun zv H' => Ext H H' ∧ Rep T H' U m z zv)
def OpS (f : Value → Value → Sem Value) (g : PH → Val → Val → Option Val) : Prop :=
  ∀ {pins : List (Addr × Obj)} {s : Shared} {σ : L2.St} {H : Hp} {U : Addr → Prop} {m : List (Option Addr)} {h : PH} {x y : Val} {xv yv : V} {v u : Value} {z : Val},
    Inv X pins σ H s → HR T H U m h → Rep T H U m x xv → Rep T H U m y yv → RelV xv v → RelV yv u → g h x y = some z → wpAny (model X.prog X.w) X.A (f v u) (EPG T X pins σ H U m z) X.xe s
def UnS (f : Value → Sem Value) (g : PH → Val → Option Val) : Prop :=
  ∀ {pins : List (Addr × Obj)} {s : Shared} {σ : L2.St} {H : Hp} {U : Addr → Prop} {m : List (Option Addr)} {h : PH} {x : Val} {xv : V} {v : Value} {z : Val},
    Inv X pins σ H s → HR T H U m h → Rep T H U m x xv → RelV xv v → g h x = some z → wpAny (model X.prog X.w) X.A (f v) (EPG T X pins σ H U m z) X.xe s
def CallS (f : Value) (g : PH → List Val → Option Val) : Prop :=
  ∀ {pins : List (Addr × Obj)} {s : Shared} {σ : L2.St} {H : Hp} {U : Addr → Prop} {m : List (Option Addr)} {h : PH} {x : List Val} {xv : List V} {v : List Value} {z : Val},
    Inv X pins σ H s → HR T H U m h → Reps T H U m x xv → Vals xv v → g h x = some z → wpAny (model X.prog X.w) X.A (call f v) (EPG T X pins σ H U m z) X.xe s
/-- the readings by such -/
def rS (g : PH → Val → Val → Option Val) : R2 := fun xv yv H Q => ∃ U m h x y z, HR T H U m h ∧ Rep T H U m x xv ∧ Rep T H U m y yv ∧ g h x y = some z ∧ ∀ zv H', Ext H H' → Rep T H' U m z zv → Q zv H'
def rU1 (g : PH → Val → Option Val) : V → Hp → VK → Prop := fun xv H Q => ∃ U m h x z, HR T H U m h ∧ Rep T H U m x xv ∧ g h x = some z ∧ ∀ zv H', Ext H H' → Rep T H' U m z zv → Q zv H'
def rC (g : PH → List Val → Option Val) : List V → Hp → VK → Prop := fun xv H Q => ∃ U m h x z, HR T H U m h ∧ Reps T H U m x xv ∧ g h x = some z ∧ ∀ zv H', Ext H H' → Rep T H' U m z zv → Q zv H'
variable {T X}
theorem OpS.r {f : Value → Value → Sem Value} {g : PH → Val → Val → Option Val} (o : OpS T X f g) : OpR X f (rS T g) := fun pins s σ H xv yv v u Q I rx ry ⟨U, m, h, x, y, z, hr, r1, r2, e, k⟩ =>
  thn (o I hr r1 r2 rx ry e) fun w s' ⟨zv, H', I', rv, ex, rz⟩ => ⟨zv, H', I', rv, k zv H' ex rz⟩
theorem OpS.op {g : PH → Val → Val → Option Val} : Op2 T (rS T g) g := fun hr r1 r2 e k => ⟨_, _, _, _, _, _, hr, r1, r2, e, k⟩
theorem UnS.r {f : Value → Sem Value} {g : PH → Val → Option Val} (o : UnS T X f g) : UnR X f (rU1 T g) := fun pins s σ H xv v Q I rx ⟨U, m, h, x, z, hr, r1, e, k⟩ =>
  thn (o I hr r1 rx e) fun w s' ⟨zv, H', I', rv, ex, rz⟩ => ⟨zv, H', I', rv, k zv H' ex rz⟩
theorem UnS.op {g : PH → Val → Option Val} : Op1 T (rU1 T g) g := fun hr r1 e k => ⟨_, _, _, _, _, hr, r1, e, k⟩
theorem CallS.r {f : Value} {g : PH → List Val → Option Val} (o : CallS T X f g) : CallR X f (rC T g) := fun pins s σ H xv v Q I rx ⟨U, m, h, x, z, hr, r1, e, k⟩ =>
  thn (o I hr r1 rx e) fun w s' ⟨zv, H', I', rv, ex, rz⟩ => ⟨zv, H', I', rv, k zv H' ex rz⟩
/-- from a rule of the hand layer -/
theorem OpS.of {f : Value → Value → Sem Value} {r : R2} {g : PH → Val → Val → Option Val} (o : OpR X f r) (k : ∀ {H : Hp} {U : Addr → Prop} {m : List (Option Addr)} {h : PH} {x y : Val} {xv yv : V} {z : Val} {Q : VK}, HR T H U m h → Rep T H U m x xv → Rep T H U m y yv → g h x y = some z → (∀ zv H', Ext H H' → Rep T H' U m z zv → Q zv H') → r xv yv H Q) : OpS T X f g :=
  fun I hr r1 r2 rx ry e => o _ _ _ _ _ _ _ _ _ I rx ry (k hr r1 r2 e fun _ _ ex rz => ⟨ex, rz⟩)
theorem UnS.of {f : Value → Sem Value} {r : V → Hp → VK → Prop} {g : PH → Val → Option Val} (o : UnR X f r) (k : ∀ {H : Hp} {U : Addr → Prop} {m : List (Option Addr)} {h : PH} {x : Val} {xv : V} {z : Val} {Q : VK}, HR T H U m h → Rep T H U m x xv → g h x = some z → (∀ zv H', Ext H H' → Rep T H' U m z zv → Q zv H') → r xv H Q) : UnS T X f g :=
  fun I hr r1 rx e => o _ _ _ _ _ _ _ I rx (k hr r1 e fun _ _ ex rz => ⟨ex, rz⟩)
theorem CallS.of {f : Value} {r : List V → Hp → VK → Prop} {g : PH → List Val → Option Val} (o : CallR X f r) (k : ∀ {H : Hp} {U : Addr → Prop} {m : List (Option Addr)} {h : PH} {x : List Val} {xv : List V} {z : Val} {Q : VK}, HR T H U m h → Reps T H U m x xv → g h x = some z → (∀ zv H', Ext H H' → Rep T H' U m z zv → Q zv H') → r xv H Q) : CallS T X f g :=
  fun I hr r1 rx e => o _ _ _ _ _ _ _ I rx (k hr r1 e fun _ _ ex rz => ⟨ex, rz⟩)
end

/-- a new object: the heap is more -/
theorem ext_upd {H : Hp} {p : Addr} {o : HO} (h : H p = none) : Ext H (upd H p o) := Ext.upd h
theorem HR.reps_ext {T : Tab} {H H' : Hp} {U : Addr → Prop} {m : List (Option Addr)} {h : PH} (hr : HR T H U m h) (e : Ext H H') {vs : List Val} {xs : List V} (r : Reps T H U m vs xs) : Reps T H' U m vs xs := hr.reps (Gr.of_ext e) r
theorem HR.rep_ext {T : Tab} {H H' : Hp} {U : Addr → Prop} {m : List (Option Addr)} {h : PH} (hr : HR T H U m h) (e : Ext H H') {v : Val} {x : V} (r : Rep T H U m v x) : Rep T H' U m v x := hr.rep (Gr.of_ext e) r
theorem rep_newtup {T : Tab} {H : Hp} {U : Addr → Prop} {m : List (Option Addr)} {h : PH} (hr : HR T H U m h) {p : Addr} (hp : H p = none) {vs : List Val} {xs : List V} (r : Reps T H U m vs xs) (hz : vs.length ≤ sizeLine) : Rep T (upd H p (.tup xs)) U m (.tup vs) (.ref p) :=
  .tup hz (.inl (.inl upd_same)) (hr.reps_ext (ext_upd hp) r)
theorem rep_newlst {T : Tab} {H : Hp} {U : Addr → Prop} {m : List (Option Addr)} {h : PH} (hr : HR T H U m h) {p : Addr} (hp : H p = none) {vs : List Val} {xs : List V} (r : Reps T H U m vs xs) (hz : vs.length ≤ sizeLine) : Rep T (upd H p (.lst xs)) U m (.lst vs) (.ref p) :=
  .lst hz upd_same (hr.notin hp) (hr.reps_ext (ext_upd hp) r)

/-- the most items that we let a list or a text have -/
abbrev big : Nat := 1000000
theorem big_line {n : Nat} (h : n ≤ big) : n ≤ sizeLine := by rw [sizeLine_eq]; have : (1000000 : Nat) ≤ 16777216 := by decide
                                                              exact Nat.le_trans h this

/-! ### arithmetic -/
def gAdd (h : PH) (x y : Val) : Option Val := match view h x, view h y with
  | .int i, .int j => some (.int (i + j))
  | .str a, .str b => if a.length + b.length ≤ big then some (.str (a ++ b)) else none
  | .tup a, .tup b => if a.length + b.length ≤ big then some (.tup (a ++ b)) else none
  | .lst a, .lst b => if a.length + b.length ≤ big then some (.lst (a ++ b)) else none
  | _, _ => none
def gSub (_ : PH) (x y : Val) : Option Val := match x, y with
  | .int i, .int j => some (.int (i - j))
  | _, _ => none
/-- within the bound of a factor -/
def fac (i : Int) : Bool := decide (-18446744073709551616 < i) && decide (i < 18446744073709551616)
def gMul (h : PH) (x y : Val) : Option Val := match view h x, y with
  | .int i, .int j => if fac i || fac j then some (.int (i * j)) else none
  | .tup a, .int k => if !a.isEmpty && decide (2 ≤ k) && decide (k ≤ 1000) && decide (a.length ≤ 1000) then some (.tup (List.replicate k.toNat a).flatten) else if decide (k = 1) || a.isEmpty then none else none
  | .lst a, .int k => if decide (-1000000 ≤ k) && decide (k ≤ 1000000) && decide (a.length * k.toNat ≤ big) then some (.lst (List.replicate k.toNat a).flatten) else none
  | _, _ => none
def gDiv (_ : PH) (x y : Val) : Option Val := match x, y with
  | .int i, .int j => if decide (0 < j) && decide (j < 1073741824) then some (.int (i / j)) else none
  | _, _ => none
def gMod (_ : PH) (x y : Val) : Option Val := match x, y with
  | .int i, .int j => if decide (0 < j) then some (.int (i % j)) else none
  | _, _ => none
def gPow (_ : PH) (x y : Val) : Option Val := match x, y with
  | .int i, .int j => if decide (0 ≤ j) && decide (j ≤ 1000) && fac i then some (.int (i ^ j.toNat)) else none
  | _, _ => none
def gNeg (_ : PH) (x : Val) : Option Val := match x with
  | .int i => some (.int (-i))
  | _ => none
theorem fac_ok {i : Int} (h : fac i = true) : -(2 ^ 64) < i ∧ i < 2 ^ 64 := by
  unfold fac at h
  simp only [Bool.and_eq_true, decide_eq_true_eq] at h
  exact h
section
variable {T : Tab} {X : Cx}
theorem reps_ne {H : Hp} {U : Addr → Prop} {m : List (Option Addr)} {vs : List Val} {xs : List V} (r : Reps T H U m vs xs) (h : vs ≠ []) : xs ≠ [] := fun e => by
  subst e
  have := r.length
  cases vs with
  | nil => exact h rfl
  | cons v vs => simp at this
theorem flat_len {α : Type} (xs : List α) : ∀ k : Nat, (List.replicate k xs).flatten.length = xs.length * k
  | 0 => by simp
  | k + 1 => by rw [List.replicate_succ, List.flatten_cons, List.length_append, flat_len xs k, Nat.mul_succ, Nat.add_comm]
theorem Reps.rep_flat {H : Hp} {U : Addr → Prop} {m : List (Option Addr)} {vs : List Val} {xs : List V} (r : Reps T H U m vs xs) : ∀ k : Nat, Reps T H U m (List.replicate k vs).flatten (List.replicate k xs).flatten
  | 0 => .nil
  | k + 1 => by
    rw [List.replicate_succ, List.replicate_succ, List.flatten_cons, List.flatten_cons]
    exact r.append (Reps.rep_flat r k)
/-- what is read is the value itself, but for located lists -/
theorem view_eq {h : PH} {x z : Val} (e : view h x = z) (hz : ∀ ys, z ≠ .lst ys) (hd : ∀ ks vs, z ≠ .dct ks vs := by intro _ _ q; exact nomatch q) : x = z := by
  cases x with
  | ref l =>
    cases q : h[l]? with
    | none => simp only [view, q] at e; exact e
    | some o =>
      cases o with
      | lst ys => simp only [view, q] at e; exact absurd e.symm (hz ys)
      | dct ks vs => simp only [view, q] at e; exact absurd e.symm (hd ks vs)
      | _ => simp only [view, q] at e; exact e
  | _ => exact e
theorem add_S (kT : X.K = T.K) : OpS T X (binaryOp .Add) gAdd := by
  intro pins s σ H U m h x y xv yv v u z I hr r1 r2 rx ry e
  unfold gAdd at e
  split at e
  · rename_i i j e1 e2
    cases e
    obtain rfl := view_eq e1 (fun _ z => nomatch z)
    obtain rfl := view_eq e2 (fun _ z => nomatch z)
    cases r1; cases r2
    exact (op_add : OpR X _ _) pins s σ H _ _ v u _ I rx ry ⟨_, _, rfl, rfl, Ext.rfl', .int _⟩
  · rename_i a b e1 e2
    split at e
    · rename_i hz
      cases e
      obtain rfl := view_eq e1 (fun _ z => nomatch z)
      obtain rfl := view_eq e2 (fun _ z => nomatch z)
      cases r1; cases r2
      exact (op_add_str : OpR X _ _) pins s σ H _ _ v u _ I rx ry ⟨_, _, rfl, rfl, big_line hz, Ext.rfl', .str _⟩
    · cases e
  · rename_i a b e1 e2
    split at e
    · rename_i hz
      cases e
      obtain ⟨a1, xs, rfl, s1, q1, z1⟩ := view_tup r1 e1
      obtain ⟨a2, ys, rfl, s2, q2, z2⟩ := view_tup r2 e2
      have l1 := q1.length
      have l2 := q2.length
      refine (op_catA : OpR X _ _) pins s σ H _ _ v u _ I rx ry ⟨a1, a2, xs, ys, rfl, rfl, by rw [kT]; exact s1, by rw [kT]; exact s2, big_line (by rw [← l1, ← l2]; exact hz), fun e => ?_, fun _ e => ?_, fun _ _ p hp => ?_⟩
      · subst e
        cases q1
        exact ⟨Ext.rfl', .tup z2 s2 q2⟩
      · subst e
        cases q2
        rw [List.append_nil]
        exact ⟨Ext.rfl', .tup z1 s1 q1⟩
      · exact ⟨ext_upd hp, rep_newtup hr hp (q1.append q2) (by rw [List.length_append]; exact big_line hz)⟩
    · cases e
  · rename_i a b e1 e2
    split at e
    · rename_i hz
      cases e
      obtain ⟨a1, xs, rfl, s1, q1, z1⟩ := view_lst hr r1 e1
      obtain ⟨a2, ys, rfl, s2, q2, z2⟩ := view_lst hr r2 e2
      have l1 := q1.length
      have l2 := q2.length
      exact (op_cat : OpR X _ _) pins s σ H _ _ v u _ I rx ry ⟨a1, a2, xs, ys, rfl, rfl, s1, s2, big_line (by rw [← l1, ← l2]; exact hz), fun p hp => ⟨ext_upd hp, rep_newlst hr hp (q1.append q2) (by rw [List.length_append]; exact big_line hz)⟩⟩
    · cases e
  · cases e
theorem sub_S : OpS T X (binaryOp .Sub) gSub := by
  intro pins s σ H U m h x y xv yv v u z I hr r1 r2 rx ry e
  unfold gSub at e
  split at e
  · cases e
    cases r1; cases r2
    exact (op_sub : OpR X _ _) pins s σ H _ _ v u _ I rx ry ⟨_, _, rfl, rfl, Ext.rfl', .int _⟩
  · cases e
theorem mul_S (kT : X.K = T.K) : OpS T X (binaryOp .Mult) gMul := by
  intro pins s σ H U m h x y xv yv v u z I hr r1 r2 rx ry e
  unfold gMul at e
  split at e
  · rename_i i j e1
    split at e
    · rename_i hf
      cases e
      obtain rfl := view_eq e1 (fun _ z => nomatch z)
      cases r1; cases r2
      refine (op_mul : OpR X _ _) pins s σ H _ _ v u _ I rx ry ⟨_, _, rfl, rfl, ?_, Ext.rfl', .int _⟩
      rcases Bool.or_eq_true_iff.mp hf with z | z
      · exact .inl (fac_ok z)
      · exact .inr (fac_ok z)
    · cases e
  · rename_i a k e1
    split at e
    · rename_i hc
      cases e
      simp only [Bool.and_eq_true, decide_eq_true_eq, Bool.not_eq_true', List.isEmpty_eq_false_iff] at hc
      obtain ⟨⟨⟨h1, h2⟩, h3⟩, h4⟩ := hc
      obtain ⟨a1, xs, rfl, s1, q1, z1⟩ := view_tup r1 e1
      cases r2
      have l1 := q1.length
      exact (op_repT : OpR X _ _) pins s σ H _ _ v u _ I rx ry ⟨a1, _, xs, rfl, rfl, by rw [kT]; exact s1, reps_ne q1 h1, h2, h3, by rw [← l1]; exact h4, fun p hp => ⟨ext_upd hp, rep_newtup hr hp (q1.rep_flat _) (by rw [flat_len]; have : a.length * k.toNat ≤ 1000 * 1000 := Nat.mul_le_mul h4 (by omega); exact big_line this)⟩⟩
    · split at e <;> cases e
  · rename_i a k e1
    split at e
    · rename_i hc
      cases e
      simp only [Bool.and_eq_true, decide_eq_true_eq] at hc
      obtain ⟨⟨h1, h2⟩, h3⟩ := hc
      obtain ⟨a1, xs, rfl, s1, q1, z1⟩ := view_lst hr r1 e1
      cases r2
      have l1 := q1.length
      exact (op_rep : OpR X _ _) pins s σ H _ _ v u _ I rx ry ⟨a1, _, xs, rfl, rfl, s1, by omega, by omega, by rw [← l1]; exact big_line h3, fun p hp => ⟨ext_upd hp, rep_newlst hr hp (q1.rep_flat _) (by rw [flat_len]; exact big_line h3)⟩⟩
    · cases e
  · cases e
theorem div_S : OpS T X (binaryOp .FloorDiv) gDiv := by
  intro pins s σ H U m h x y xv yv v u z I hr r1 r2 rx ry e
  unfold gDiv at e
  split at e
  · split at e
    · rename_i hc
      cases e
      simp only [Bool.and_eq_true, decide_eq_true_eq] at hc
      cases r1; cases r2
      exact (op_fdiv : OpR X _ _) pins s σ H _ _ v u _ I rx ry ⟨_, _, rfl, rfl, hc, Ext.rfl', .int _⟩
    · cases e
  · cases e
theorem mod_S : OpS T X (binaryOp .Mod) gMod := by
  intro pins s σ H U m h x y xv yv v u z I hr r1 r2 rx ry e
  unfold gMod at e
  split at e
  · split at e
    · rename_i hc
      cases e
      cases r1; cases r2
      exact (op_mod : OpR X _ _) pins s σ H _ _ v u _ I rx ry ⟨_, _, rfl, rfl, of_decide_eq_true hc, Ext.rfl', .int _⟩
    · cases e
  · cases e
theorem pow_S : OpS T X (binaryOp .Pow) gPow := by
  intro pins s σ H U m h x y xv yv v u z I hr r1 r2 rx ry e
  unfold gPow at e
  split at e
  · split at e
    · rename_i hc
      cases e
      simp only [Bool.and_eq_true, decide_eq_true_eq] at hc
      obtain ⟨⟨h1, h2⟩, h3⟩ := hc
      cases r1; cases r2
      have f := fac_ok h3
      exact (op_pow : OpR X _ _) pins s σ H _ _ v u _ I rx ry ⟨_, _, rfl, rfl, ⟨h1, by omega, by omega⟩, Ext.rfl', .int _⟩
    · cases e
  · cases e
theorem neg_S : UnS T X (unaryOp .USub) gNeg := by
  intro pins s σ H U m h x xv v z I hr r1 rx e
  unfold gNeg at e
  split at e
  · cases e
    cases r1
    exact (un_neg : UnR X _ _) pins s σ H _ v _ I rx ⟨_, rfl, Ext.rfl', .int _⟩
  · cases e
end

/-! ### comparisons of data -/
def dd (h : PH) (x y : Val) (k : Val → Val → Bool) : Option Val := if dat (view h x) 60 && dat (view h y) 60 then some (.bl (k (view h x) (view h y))) else none
def gEq (h : PH) (x y : Val) : Option Val := dd h x y veq
def gNe (h : PH) (x y : Val) : Option Val := dd h x y fun a b => !veq a b
def nonB : Val → Bool
  | .non => true
  | _ => false
def ord (h : PH) (x y : Val) (k : Val → Val → Bool) : Option Val := if dat (view h x) 60 && dat (view h y) 60 && valike (view h x) (view h y) && !nonB (view h x) then some (.bl (k (view h x) (view h y))) else none
def gLt (h : PH) (x y : Val) : Option Val := ord h x y vlt
def gGt (h : PH) (x y : Val) : Option Val := ord h x y fun a b => vlt b a
def gLe (h : PH) (x y : Val) : Option Val := ord h x y fun a b => !vlt b a
def gGe (h : PH) (x y : Val) : Option Val := ord h x y fun a b => !vlt a b
/-- the items of a container -/
def items : Val → Option (List Val)
  | .tup xs => some xs
  | .lst xs => some xs
  | _ => none
def inn (h : PH) (x y : Val) (k : Bool → Bool) : Option Val := match view h y with
  | .tup ys => if dat (view h x) 60 && dats ys 60 then some (.bl (k (ys.any fun z => veq z (view h x)))) else none
  | .lst ys => if dat (view h x) 60 && dats ys 60 then some (.bl (k (ys.any fun z => veq z (view h x)))) else none
  | _ => none
def gIn (h : PH) (x y : Val) : Option Val := inn h x y id
def gNotIn (h : PH) (x y : Val) : Option Val := inn h x y not
/-- no dead reference -/
def alive (h : PH) : Val → Bool
  | .ref l => (match h[l]? with | none => false | some .non => false | some _ => true)
  | _ => true
def gIs (h : PH) (x y : Val) : Option Val := match y with
  | .non => if alive h x then some (.bl (nonB x)) else none
  | .bl b => (match x with | .bl a => some (.bl (decide (a = b))) | _ => none)
  | _ => none
def gIsNot (h : PH) (x y : Val) : Option Val := match y with
  | .non => if alive h x then some (.bl (!nonB x)) else none
  | .bl b => (match x with | .bl a => some (.bl (!decide (a = b))) | _ => none)
  | _ => none
section
variable {T : Tab} {X : Cx}
theorem reads_of (kT : X.K = T.K) {pins : List (Addr × Obj)} {s : Shared} {σ : L2.St} {H : Hp} {U : Addr → Prop} {m : List (Option Addr)} {h : PH} {x : Val} {xv : V} {v : Value} {n : Nat} (I : Inv X pins σ H s) (hr : HR T H U m h) (r1 : Rep T H U m x xv) (rx : RelV xv v) (d : dat (view h x) n = true) :
    ∃ as, Reads s.heap v (toD (view h x)) as := Dp.reads I _ _ _ (by rw [kT]; exact view_dp hr r1 d) rx
theorem min_dep {d e : PyData} {n : Nat} (h : d.depth ≤ n) : min d.depth e.depth ≤ n := Nat.le_trans (Nat.min_le_left _ _) h
theorem dd_S {f : Value → Value → Sem Value} {k : Val → Val → Bool} (ok : XOk T X) (hf : ∀ {A : Around} {E : Value → Shared → Prop} {s : Shared} {a b : Value} {da db : PyData} {as bs : List Addr} {Q : Value → Shared → Prop}, Reads s.heap a da as → Reads s.heap b db bs → da.plain = true → db.plain = true → A.units + min da.depth db.depth < cLine → ∀ x y n m, da = toD x → db = toD y → dat x n = true → dat y m = true →
    Q (.bool (k x y)) s → wpAny (model X.prog X.w) A (f a b) Q E s) : OpS T X f fun h x y => dd h x y k := by
  intro pins s σ H U m h x y xv yv v u z I hr r1 r2 rx ry e
  simp only [dd] at e
  split at e
  · rename_i hc
    cases e
    rw [Bool.and_eq_true] at hc
    obtain ⟨as, q1⟩ := reads_of ok.k I hr r1 rx hc.1
    obtain ⟨bs, q2⟩ := reads_of ok.k I hr r2 ry hc.2
    have p1 := dat_plain _ _ hc.1
    have p2 := dat_plain _ _ hc.2
    have hu := ok.un
    have hd : min (toD (view h x)).depth (toD (view h y)).depth ≤ 60 := min_dep p1.2
    exact hf q1 q2 p1.1 p2.1 (by omega) _ _ _ _ rfl rfl hc.1 hc.2 ⟨.bl _, H, I, rfl, Ext.rfl', .bl _⟩
  · cases e
theorem eq_S (ok : XOk T X) : OpS T X (compareOp .Eq) gEq := dd_S ok fun q1 q2 p1 p2 hu x y n m e1 e2 d1 d2 hq => by
  refine PySem.SeqAt.eq_plain q1 q2 p1 p2 hu ?_
  rw [e1, e2, veq_ok x y n m d1 d2]
  exact hq
theorem ne_S (ok : XOk T X) : OpS T X (compareOp .NotEq) gNe := dd_S ok fun q1 q2 p1 p2 hu x y n m e1 e2 d1 d2 hq => by
  refine PySem.SeqAt.ne_plain q1 q2 p1 p2 hu ?_
  rw [e1, e2, veq_ok x y n m d1 d2]
  exact hq
theorem nonB_ok {x : Val} (h : nonB x = false) : x ≠ .non := fun e => by subst e; cases h
theorem toD_non {x : Val} {n : Nat} (d : dat x n = true) (h : nonB x = false) : toD x ≠ .none := fun e => by
  cases x <;> simp [toD, nonB, dat] at e h d
theorem ord_S {f : Value → Value → Sem Value} {k : Val → Val → Bool} (ok : XOk T X) (hf : ∀ {A : Around} {E : Value → Shared → Prop} {s : Shared} {a b : Value} {da db : PyData} {as bs : List Addr} {Q : Value → Shared → Prop}, Reads s.heap a da as → Reads s.heap b db bs → W.alike da db = true → da ≠ .none → A.units + min da.depth db.depth < cLine → ∀ x y n m, da = toD x → db = toD y → dat x n = true → dat y m = true → valike x y = true → nonB x = false →
    Q (.bool (k x y)) s → wpAny (model X.prog X.w) A (f a b) Q E s) : OpS T X f fun h x y => ord h x y k := by
  intro pins s σ H U m h x y xv yv v u z I hr r1 r2 rx ry e
  simp only [ord] at e
  split at e
  · rename_i hc
    cases e
    simp only [Bool.and_eq_true, Bool.not_eq_true'] at hc
    obtain ⟨⟨⟨d1, d2⟩, al⟩, hn⟩ := hc
    obtain ⟨as, q1⟩ := reads_of ok.k I hr r1 rx d1
    obtain ⟨bs, q2⟩ := reads_of ok.k I hr r2 ry d2
    have p1 := dat_plain _ _ d1
    have hu := ok.un
    have hd : min (toD (view h x)).depth (toD (view h y)).depth ≤ 60 := min_dep p1.2
    exact hf q1 q2 (by rw [valike_ok _ _ _ _ d1 d2]; exact al) (toD_non d1 hn) (by omega) _ _ _ _ rfl rfl d1 d2 al hn ⟨.bl _, H, I, rfl, Ext.rfl', .bl _⟩
  · cases e
theorem valike_comm_non {x y : Val} (h : valike x y = true) (hn : nonB x = false) : nonB y = false := by
  cases x <;> cases y <;> simp_all [valike, nonB]
theorem lt_S (ok : XOk T X) : OpS T X (compareOp .Lt) gLt := ord_S ok fun q1 q2 al hn hu x y n m e1 e2 d1 d2 a1 n1 hq => by
  refine PySem.W.lt_data q1 q2 al hn hu ?_
  rw [e1, e2, vlt_ok x y n m d1 d2 a1 (nonB_ok n1)]
  exact hq
theorem valike_comm {x y : Val} {n m : Nat} (d1 : dat x n = true) (d2 : dat y m = true) (h : valike x y = true) : valike y x = true := by
  rw [← valike_ok y x m n d2 d1, PySem.W.alike_comm, valike_ok x y n m d1 d2]
  exact h
theorem gt_S (ok : XOk T X) : OpS T X (compareOp .Gt) gGt := ord_S ok fun q1 q2 al hn hu x y n m e1 e2 d1 d2 a1 n1 hq => by
  refine PySem.W.gt_data q1 q2 al hn hu ?_
  rw [e1, e2, vlt_ok y x m n d2 d1 (valike_comm d1 d2 a1) (nonB_ok (valike_comm_non a1 n1))]
  exact hq
theorem le_S (ok : XOk T X) : OpS T X (compareOp .LtE) gLe := ord_S ok fun q1 q2 al hn hu x y n m e1 e2 d1 d2 a1 n1 hq => by
  refine PySem.W.le_data q1 q2 al hn hu ?_
  rw [e1, e2, vlt_ok y x m n d2 d1 (valike_comm d1 d2 a1) (nonB_ok (valike_comm_non a1 n1))]
  exact hq
theorem ge_S (ok : XOk T X) : OpS T X (compareOp .GtE) gGe := ord_S ok fun q1 q2 al hn hu x y n m e1 e2 d1 d2 a1 n1 hq => by
  refine PySem.W.ge_data q1 q2 al hn hu ?_
  rw [e1, e2, vlt_ok x y n m d1 d2 a1 (nonB_ok n1)]
  exact hq
theorem toDs_any {ys : List Val} {x : Val} {n m : Nat} (d : dats ys n = true) (dx : dat x m = true) : ((toDs ys).any fun z => PyData.eqv z (toD x)) = ys.any fun z => veq z x := by
  induction ys with
  | nil => simp [toDs]
  | cons y ys ih =>
    simp only [dats, Bool.and_eq_true] at d
    simp only [toDs, List.any_cons, ih d.2, veq_ok y x n m d.1 dx]
theorem inn_S (ok : XOk T X) {op : CmpOp} {k : Bool → Bool}
    (hl : ∀ {A : Around} {E : Value → Shared → Prop} {s : Shared} {c x : Value} {xs : List PyData} {d : PyData} {as bs : List Addr} {Q : Value → Shared → Prop}, Reads s.heap c (.list xs) as → Reads s.heap x d bs → PyData.plainAll xs = true → d.plain = true → A.units + 1 + min (PyData.depthAll xs) d.depth < cLine → Q (.bool (k (xs.any fun y => PyData.eqv y d))) s → wpAny (model X.prog X.w) A (compareOp op x c) Q E s)
    (ht : ∀ {A : Around} {E : Value → Shared → Prop} {s : Shared} {c x : Value} {xs : List PyData} {d : PyData} {as bs : List Addr} {Q : Value → Shared → Prop}, Reads s.heap c (.tuple xs) as → Reads s.heap x d bs → PyData.plainAll xs = true → d.plain = true → A.units + 1 + min (PyData.depthAll xs) d.depth < cLine → Q (.bool (k (xs.any fun y => PyData.eqv y d))) s → wpAny (model X.prog X.w) A (compareOp op x c) Q E s) :
    OpS T X (compareOp op) fun h x y => inn h x y k := by
  intro pins s σ H U m h x y xv yv v u z I hr r1 r2 rx ry e
  simp only [inn] at e
  split at e
  case h_3 => cases e
  all_goals
    split at e
    · rename_i ys ey hc
      cases e
      rw [Bool.and_eq_true] at hc
      have dy : dat (view h y) 61 = true := by rw [ey]; simpa only [dat] using hc.2
      obtain ⟨as, q1⟩ := reads_of ok.k I hr r1 rx hc.1
      obtain ⟨bs, q2⟩ := reads_of ok.k I hr r2 ry dy
      have p1 := dat_plain _ _ hc.1
      have p2 := dats_plain _ _ hc.2
      have hu := ok.un
      have hd : min (PyData.depthAll (toDs ys)) (toD (view h x)).depth ≤ 60 := Nat.le_trans (Nat.min_le_left _ _) p2.2
      rw [ey] at q2
      simp only [toD] at q2
      first
        | refine hl q2 q1 p2.1 p1.1 (by omega) ?_
        | refine ht q2 q1 p2.1 p1.1 (by omega) ?_
      rw [toDs_any hc.2 hc.1]
      exact ⟨.bl _, H, I, rfl, Ext.rfl', .bl _⟩
    · cases e
theorem in_S (ok : XOk T X) : OpS T X (compareOp .In) gIn := inn_S ok (fun a b c d e f => PySem.SeqAt.in_list_data a b c d e f) (fun a b c d e f => PySem.SeqAt.in_tuple_data a b c d e f)
theorem notIn_S (ok : XOk T X) : OpS T X (compareOp .NotIn) gNotIn := inn_S ok (fun a b c d e f => PySem.SeqAt.notIn_list_data a b c d e f) (fun a b c d e f => PySem.SeqAt.notIn_tuple_data a b c d e f)
theorem rep_alive {H : Hp} {U : Addr → Prop} {m : List (Option Addr)} {h : PH} {l : Nat} {x : V} (hr : HR T H U m h) (r : Rep T H U m (.ref l) x) (al : alive h (.ref l) = true) : ∃ a, m[l]? = some (some a) ∧ x = .ref a := by
  cases r with
  | ref hl e =>
    cases q : h[l]? with
    | none => simp [alive, q] at al
    | some o =>
      rcases hr.obj l o q with ⟨_, e0⟩ | ⟨a, e1, ob⟩
      · subst e0; simp [alive, q] at al
      · exact ⟨a, e1, e a e1⟩
theorem rep_non {H : Hp} {U : Addr → Prop} {m : List (Option Addr)} {h : PH} {x : Val} {xv : V} (hr : HR T H U m h) (r : Rep T H U m x xv) (al : alive h x = true) : nonB x = decide (xv = .non) := by
  cases x with
  | ref l =>
    obtain ⟨a, _, rfl⟩ := rep_alive hr r al
    simp [nonB]
  | _ => cases r <;> simp [nonB]
theorem is_S : OpS T X (compareOp .Is) gIs := by
  intro pins s σ H U m h x y xv yv v u z I hr r1 r2 rx ry e
  unfold gIs at e
  split at e
  · split at e
    · rename_i al
      cases e
      cases r2
      rw [rep_non hr r1 al]
      exact (op_isN : OpR X _ _) pins s σ H _ _ v u _ I rx ry ⟨rfl, Ext.rfl', .bl _⟩
    · cases e
  · split at e
    · cases e
      cases r1; cases r2
      exact (op_isBl : OpR X _ _) pins s σ H _ _ v u _ I rx ry ⟨_, _, rfl, rfl, Ext.rfl', .bl _⟩
    · cases e
  · cases e
theorem isNot_S : OpS T X (compareOp .IsNot) gIsNot := by
  intro pins s σ H U m h x y xv yv v u z I hr r1 r2 rx ry e
  unfold gIsNot at e
  split at e
  · split at e
    · rename_i al
      cases e
      cases r2
      rw [rep_non hr r1 al]
      exact (op_notN : OpR X _ _) pins s σ H _ _ v u _ I rx ry ⟨rfl, Ext.rfl', .bl _⟩
    · cases e
  · split at e
    · cases e
      cases r1; cases r2
      exact (op_notBl : OpR X _ _) pins s σ H _ _ v u _ I rx ry ⟨_, _, rfl, rfl, Ext.rfl', .bl _⟩
    · cases e
  · cases e
end
end SW

namespace SW
open PySem PySem.Spec PyProof.Rows L2

/-! ### argument lists, displays -/
def eArgs : List Ex → Ev → SM (List Val)
  | [], _ => fun h => .ok [] h
  | e :: es, r => fun h => (e r h).bind fun v h1 => (eArgs es r h1).bind fun vs h2 => .ok (v :: vs) h2
theorem eArgs_len : ∀ {es : List Ex} {r : Ev} {h h' : PH} {vs : List Val}, eArgs es r h = .ok vs h' → vs.length = es.length
  | [], r, h, h', vs, e => by cases e; rfl
  | a :: es, r, h, h', vs, e => by
    simp only [eArgs] at e
    cases e1 : a r h with
    | ok v h1 =>
      rw [e1] at e
      simp only [Res.bind] at e
      cases e2 : eArgs es r h1 with
      | ok ws h2 =>
        rw [e2] at e
        simp only at e
        cases e
        simp [eArgs_len e2]
      | exc _ _ => rw [e2] at e; cases e
      | stuck => rw [e2] at e; cases e
    | exc _ _ => rw [e1] at e; cases e
    | stuck => rw [e1] at e; cases e
def tA (T : Tab) (W : WC) (ms : Ev → SM (List Val)) : TA := fun σ H Q => ∃ U m r h, HR T H U m h ∧ ER T H U m r σ ∧ Out T H U m W (ms r h) fun vs _ H' U' m' => ∀ xs, Reps T H' U' m' vs xs → Q xs H'
def CA (T : Tab) (X : Cx) (es : List Expr) (ms : Ev → SM (List Val)) : Prop := XOk T X → ∀ W, Tk X W → PA X es (tA T W ms)
/-- behind the arguments -/
theorem tA_then {T : Tab} {W : WC} {ms : Ev → SM (List Val)} {β : Type} {f : List Val → SM β} {Kq : β → PH → Hp → (Addr → Prop) → List (Option Addr) → Prop} {σ : L2.St} {H : Hp} {U : Addr → Prop} {m : List (Option Addr)} {r : Ev} {h : PH} (hr : HR T H U m h) (er : ER T H U m r σ) (o : Out T H U m W ((ms r h).bind f) Kq)
    {Q : List V → Hp → Prop} (k : ∀ xs H1 U1 m1 h1 vs, ms r h = .ok vs h1 → Gr H U m H1 U1 m1 → HR T H1 U1 m1 h1 → ER T H1 U1 m1 r σ → Reps T H1 U1 m1 vs xs → Out T H1 U1 m1 W (f vs h1) Kq → Q xs H1) : tA T W ms σ H Q := by
  refine ⟨U, m, r, h, hr, er, ?_⟩
  have o1 := o.bind hr
  cases e : ms r h with
  | ok vs h1 =>
    rw [e] at o1
    exact fun H1 U1 m1 g hr1 xs rx => k xs H1 U1 m1 h1 vs e g hr1 (hr.env g er) rx (o1 H1 U1 m1 g hr1)
  | exc _ _ => rw [e] at o1; exact o1
  | stuck => rw [e] at o1; exact o1
section
variable {T : Tab} {X : Cx} {pos : Pos} {a b c e : Expr} {es : List Expr} {ma mb mc me : Ex} {ms : List Ex}
theorem ca_nil : CA T X [] (eArgs []) := fun _ W tk => pa_imp pa_nil fun σ H Q ⟨U, m, r, h, hr, er, o⟩ => o H U m .refl hr [] .nil
theorem ca_cons (ha : CE T X e me) (hs : CA T X es (eArgs ms)) (hst : starEach (e :: es) X.env = (false, eval e X.env) :: starEach es X.env := by rfl) : CA T X (e :: es) (eArgs (me :: ms)) := fun ok W tk =>
  pa_imp (pa_cons (ha ok W tk) (hs ok W tk) hst) fun σ H Q ⟨U, m, r, h, hr, er, o⟩ => by
    refine tE_then hr er o fun x H1 U1 m1 h1 v g1 hr1 er1 rx o1 => ?_
    refine tA_then hr1 er1 o1 fun xs H2 U2 m2 h2 vs _ g2 hr2 er2 rxs o2 => ?_
    exact o2 H2 U2 m2 .refl hr2 (x :: xs) (.cons (hr1.rep g2 rx) rxs)
def eTup (ms : List Ex) : Ex := fun r h => (eArgs ms r h).bind fun vs h1 => .ok (.tup vs) h1
theorem ce_tup {k : Nat} (hs : CA T X es (eArgs ms)) (hl : ms.length ≤ 1000 := by decide) : CE T X (.Tuple es k pos) (eTup ms) := fun ok W tk =>
  pe_imp (pe_tup (hs ok W tk)) fun σ H Q ⟨U, m, r, h, hr, er, o⟩ => by
    refine tA_then hr er o fun xs H1 U1 m1 h1 vs e g1 hr1 er1 rxs o1 => ⟨?_, fun p hp => ?_⟩
    · rw [← rxs.length, eArgs_len e]
      exact big_line (Nat.le_trans hl (by decide))
    · exact o1 _ U1 m1 (Gr.of_ext (ext_upd hp)) (hr1.ext (ext_upd hp)) _ (rep_newtup hr1 hp rxs (by rw [eArgs_len e]; exact big_line (Nat.le_trans hl (by decide))))
end

/-! ### new lists -/
/-- the list at p is new, and nothing knows of it -/
structure NL (T : Tab) (H : Hp) (U : Addr → Prop) (m : List (Option Addr)) (h' : PH) (vs : List Val) (H' : Hp) (U' : Addr → Prop) (m' : List (Option Addr)) (p : Addr) (xs : List V) : Prop where
  nu : ¬ U' p
  nm : ¬ Lv m' p
  fr : H p = none
  gr : Gr H U m H' U' m'
  hr : HR T H' (addU U' p) m' h'
  at_ : H' p = some (.lst xs)
  reps : Reps T H' (addU U' p) m' vs xs
  size : vs.length ≤ sizeLine
def OutN (T : Tab) (H : Hp) (U : Addr → Prop) (m : List (Option Addr)) (W : WC) (r : Res (List Val)) (Q : VK) : Prop := match r with
  | .ok vs h' => ∀ H' U' m' p xs, NL T H U m h' vs H' U' m' p xs → Q (.ref p) H'
  | .exc e h' => ∀ H' U' m' cls d, Gr H U m H' U' m' → HR T H' U' m' h' → ExR T H' U' m' e cls d → W cls d H'
  | .stuck => False
def tN (T : Tab) (W : WC) (mn : Ev → SM (List Val)) : TE := fun σ H Q => ∃ U m r h, HR T H U m h ∧ ER T H U m r σ ∧ OutN T H U m W (mn r h) Q
def CN (T : Tab) (X : Cx) (e : Expr) (mn : Ev → SM (List Val)) : Prop := XOk T X → ∀ W, Tk X W → PE X e (tN T W mn)
/-- as a value that is never written -/
def eFrz (mn : Ev → SM (List Val)) : Ex := fun r h => (mn r h).bind fun vs h1 => .ok (.lst vs) h1
/-- as a located object -/
def eLoc (mn : Ev → SM (List Val)) : Ex := fun r h => (mn r h).bind fun vs h1 => .ok (.ref h1.length) (h1 ++ [.lst vs])
section
variable {T : Tab} {H H' : Hp} {U U' : Addr → Prop} {m m' : List (Option Addr)} {h h' : PH} {p : Addr}
theorem shrinkU : Gw H (SW.addU U p) m H U m := ⟨fun _ _ _ e => e, fun _ z => .inl (.inl z), Nat.le_refl _, fun _ _ _ e => e⟩
theorem HR.shrink (x : HR T H (SW.addU U p) m h) (hp : ¬ Lv m p) : HR T H U m h := ⟨x.len, x.nd, fun a ha => (x.sub a ha).resolve_right fun e => hp (e ▸ ha), fun a ha => x.us a (.inl ha), fun l o q => by
  rcases x.obj l o q with z | ⟨a, e1, e2⟩
  · exact .inl z
  · exact .inr ⟨a, e1, e2.gw x.us shrinkU rfl⟩⟩
end
section
variable {T : Tab} {X : Cx} {pos : Pos} {a b c e : Expr} {es : List Expr} {ma mb mc me : Ex} {ms : List Ex} {mn : Ev → SM (List Val)}
theorem frz_run {W : WC} {σ : L2.St} {H : Hp} {Q : VK} (q : tE T W (eFrz mn) σ H Q) : tN T W mn σ H Q := by
  obtain ⟨U, m, r, h, hr, er, o⟩ := q
  refine ⟨U, m, r, h, hr, er, ?_⟩
  unfold eFrz at o
  cases e1 : mn r h with
  | ok vs h1 =>
    rw [e1] at o
    intro H' U' m' p xs n
    exact o H' U' m' n.gr (n.hr.shrink n.nm) (.ref p) (.lst n.size n.at_ n.nu (Reps.gr shrinkU n.hr.us n.reps))
  | exc _ _ => rw [e1] at o; exact o
  | stuck => rw [e1] at o; exact o
theorem loc_run {W : WC} {σ : L2.St} {H : Hp} {Q : VK} (q : tE T W (eLoc mn) σ H Q) : tN T W mn σ H Q := by
  obtain ⟨U, m, r, h, hr, er, o⟩ := q
  refine ⟨U, m, r, h, hr, er, ?_⟩
  unfold eLoc at o
  cases e1 : mn r h with
  | ok vs h1 =>
    rw [e1] at o
    intro H' U' m' p xs n
    have g : Gr H U m H' (addU U' p) (m' ++ [some p]) := ⟨n.gr.keep, fun a ha => ha.elim (n.gr.new a) fun z => .inr (by rw [z]; exact n.fr), ⟨by have := n.gr.ext.len; simp; omega, fun l a hl e => by
        have h2 := n.gr.ext.len
        rw [List.getElem?_append_left (by omega)] at e
        exact n.gr.ext.old l a hl e, fun l a hl e => by
        by_cases h3 : l < m'.length
        · rw [List.getElem?_append_left h3] at e
          exact n.gr.ext.new l a hl e
        · have : l = m'.length := by
            have := (List.getElem?_eq_some_iff.mp e).1
            simp at this; omega
          subst this
          rw [List.getElem?_append_right (Nat.le_refl _)] at e
          simp at e; rw [← e]; exact n.fr⟩, n.gr.there, fun a h1 h2 h3 => .inl (n.gr.up a h1 h2 h3)⟩
    exact o H' (addU U' p) (m' ++ [some p]) g (n.hr.locate (.inr rfl) n.nm ⟨xs, n.at_, n.reps, n.size⟩) (.ref p) (.ref (by rw [← n.hr.len]; simp) fun a e => by
      rw [← n.hr.len, List.getElem?_append_right (Nat.le_refl _)] at e
      simp at e; rw [e])
  | exc _ _ => rw [e1] at o; exact o
  | stuck => rw [e1] at o; exact o
theorem ce_frz (hn : CN T X e mn) : CE T X e (eFrz mn) := fun ok W tk => pe_imp (hn ok W tk) fun σ H Q q => frz_run q
theorem ce_loc (hn : CN T X e mn) : CE T X e (eLoc mn) := fun ok W tk => pe_imp (hn ok W tk) fun σ H Q q => loc_run q
/-- a list just laid over (H1, U1, m1) -/
theorem NL.of {H H1 : Hp} {U U1 : Addr → Prop} {m m1 : List (Option Addr)} {h h1 : PH} {vs : List Val} {xs : List V} {p : Addr} (hr : HR T H U m h) (hr1 : HR T H1 U1 m1 h1) (g : Gr H U m H1 U1 m1) (hp : H1 p = none) (r : Reps T H1 U1 m1 vs xs) (hz : vs.length ≤ sizeLine) : NL T H U m h1 vs (upd H1 p (.lst xs)) U1 m1 p xs :=
  ⟨hr1.notin hp, hr1.notlv hp, g.fresh hp, hr.trans hr1 g (Gr.of_ext (ext_upd hp)), hr1.addU hp True.intro, upd_same, hr1.reps (growU hp) r, hz⟩
theorem cn_lst (hs : CA T X es (eArgs ms)) (hl : ms.length ≤ 1000 := by decide) : CN T X (.List es pos) (eArgs ms) := fun ok W tk =>
  pe_imp (pe_lst (hs ok W tk)) fun σ H Q ⟨U, m, r, h, hr, er, o⟩ => by
    refine ⟨U, m, r, h, hr, er, ?_⟩
    cases e1 : eArgs ms r h with
    | ok vs h1 =>
      rw [e1] at o
      intro H1 U1 m1 g hr1 xs rxs
      refine ⟨?_, fun p hp => o _ U1 m1 p xs (NL.of hr hr1 g hp rxs (by rw [eArgs_len e1]; exact big_line (Nat.le_trans hl (by decide))))⟩
      rw [← rxs.length, eArgs_len e1]
      exact big_line (Nat.le_trans hl (by decide))
    | exc _ _ => rw [e1] at o; exact o
    | stuck => rw [e1] at o; exact o
end

/-! ### tests -/
def truth (h : PH) (v : Val) : Option Bool := match view h v with
  | .bl b => some b
  | .int i => some (i != 0)
  | .non => some false
  | .tup xs => some (!xs.isEmpty)
  | .lst xs => some (!xs.isEmpty)
  | _ => none
def truthM (v : Val) : SM Bool := fun h => lift (truth h v) h
def tT (T : Tab) (W : WC) (me : Ex) : TT := fun σ H Q => ∃ U m r h, HR T H U m h ∧ ER T H U m r σ ∧ Out T H U m W ((me r h).bind truthM) fun b _ H' _ _ => Q b H'
def CT (T : Tab) (X : Cx) (e : Expr) (me : Ex) : Prop := XOk T X → ∀ W, Tk X W → PT X e (tT T W me)
def CW (T : Tab) (X : Cx) (e : Expr) (me : Ex) : Prop := XOk T X → ∀ W, Tk X W → PW X e (tT T W me)
/-- a test, then: the two ways -/
theorem tT_then {T : Tab} {W : WC} {me : Ex} {β : Type} {f : Bool → SM β} {Kq : β → PH → Hp → (Addr → Prop) → List (Option Addr) → Prop} {σ : L2.St} {H : Hp} {U : Addr → Prop} {m : List (Option Addr)} {r : Ev} {h : PH} (hr : HR T H U m h) (er : ER T H U m r σ) (o : Out T H U m W (((me r h).bind truthM).bind f) Kq)
    {Q : Bool → Hp → Prop} (k : ∀ b H1 U1 m1 h1, Gr H U m H1 U1 m1 → HR T H1 U1 m1 h1 → ER T H1 U1 m1 r σ → Out T H1 U1 m1 W (f b h1) Kq → Q b H1) : tT T W me σ H Q :=
  ⟨U, m, r, h, hr, er, (o.bind hr).mono fun b h1 H1 U1 m1 g hr1 o1 => k b H1 U1 m1 h1 g hr1 (hr.env g er) o1⟩
theorem Res.bind_assoc {α β γ : Type} (r : Res α) (f : α → SM β) (g : β → SM γ) : (r.bind f).bind g = r.bind fun a h => (f a h).bind g := by
  cases r <;> rfl
theorem truth_ok {T : Tab} {X : Cx} (kT : X.K = T.K) {H : Hp} {U : Addr → Prop} {m : List (Option Addr)} {h : PH} {v : Val} {x : V} {b : Bool} (hr : HR T H U m h) (r : Rep T H U m v x) (e : truth h v = some b) : TruV X.K x H b := by
  unfold truth at e
  split at e
  · rename_i c e1
    cases e
    obtain rfl := view_eq e1 (fun _ z => nomatch z)
    cases r; rfl
  · rename_i c e1
    cases e
    obtain rfl := view_eq e1 (fun _ z => nomatch z)
    cases r; rfl
  · rename_i e1
    cases e
    obtain rfl := view_eq e1 (fun _ z => nomatch z)
    cases r; rfl
  · rename_i xs e1
    cases e
    obtain ⟨a, ys, rfl, s1, q, _⟩ := view_tup r e1
    refine .inr (.inl ⟨ys, by rw [kT]; exact s1, ?_⟩)
    have l := q.length
    cases xs <;> cases ys <;> simp at l ⊢
  · rename_i xs e1
    cases e
    obtain ⟨a, ys, rfl, s1, q, _⟩ := view_lst hr r e1
    refine .inl ⟨ys, .of s1, ?_⟩
    have l := q.length
    cases xs <;> cases ys <;> simp at l ⊢
  · cases e
/-- what tells a truth value alone -/
def IsB (g : PH → Val → Val → Option Val) : Prop := ∀ h x y z, g h x y = some z → ∃ b, z = .bl b
theorem isB_dd {k : Val → Val → Bool} : IsB fun h x y => dd h x y k := fun h x y z e => by
  simp only [dd] at e
  split at e
  · cases e; exact ⟨_, rfl⟩
  · cases e
theorem isB_ord {k : Val → Val → Bool} : IsB fun h x y => ord h x y k := fun h x y z e => by
  simp only [ord] at e
  split at e
  · cases e; exact ⟨_, rfl⟩
  · cases e
theorem isB_inn {k : Bool → Bool} : IsB fun h x y => inn h x y k := fun h x y z e => by
  simp only [inn] at e
  split at e
  · split at e
    · cases e; exact ⟨_, rfl⟩
    · cases e
  · split at e
    · cases e; exact ⟨_, rfl⟩
    · cases e
  · cases e
theorem isB_is : IsB gIs := fun h x y z e => by
  unfold gIs at e
  split at e
  · split at e
    · cases e; exact ⟨_, rfl⟩
    · cases e
  · split at e
    · cases e; exact ⟨_, rfl⟩
    · cases e
  · cases e
theorem isB_isNot : IsB gIsNot := fun h x y z e => by
  unfold gIsNot at e
  split at e
  · split at e
    · cases e; exact ⟨_, rfl⟩
    · cases e
  · split at e
    · cases e; exact ⟨_, rfl⟩
    · cases e
  · cases e
def eAnd (a b : Ex) : Ex := fun r h => (a r h).bind fun x h1 => match x with
  | .bl true => b r h1
  | .bl false => .ok (.bl false) h1
  | _ => .stuck
def eOr (a b : Ex) : Ex := fun r h => (a r h).bind fun x h1 => match x with
  | .bl true => .ok (.bl true) h1
  | .bl false => b r h1
  | _ => .stuck
def eNot (a : Ex) : Ex := fun r h => (a r h).bind fun x h1 => match x with
  | .bl b => .ok (.bl (!b)) h1
  | _ => .stuck
def eIf (c a b : Ex) : Ex := fun r h => ((c r h).bind truthM).bind fun k h1 => if k then a r h1 else b r h1
def eChain (g g' : PH → Val → Val → Option Val) (a b c : Ex) : Ex := fun r h => (a r h).bind fun x h1 => (b r h1).bind fun y h2 => (lift (g h2 x y) h2).bind fun z h3 => match z with
  | .bl true => (c r h3).bind fun w h4 => lift (g' h4 y w) h4
  | .bl false => .ok (.bl false) h3
  | _ => .stuck
section
variable {T : Tab} {X : Cx} {pos : Pos} {a b c e : Expr} {es rest : List Expr} {ma mb mc me : Ex}
theorem ct_of (ha : CE T X a ma) (he : ∀ whole, isTrue a X.env whole = (do let v ← whole; standAt a.pos; holding [v] (truthy v)) := by intro _; rfl) : CT T X a ma := fun ok W tk =>
  pt_imp (pt_truth (ha ok W tk) he) fun σ H Q ⟨U, m, r, h, hr, er, o⟩ => by
    refine tE_then hr er o fun x H1 U1 m1 h1 v g1 hr1 er1 rx o1 => ?_
    obtain ⟨k, ek⟩ := Out.lift_some o1
    refine ⟨k, truth_ok ok.k hr1 rx ek, ?_⟩
    unfold truthM at o1
    rw [ek] at o1
    exact o1 H1 U1 m1 .refl hr1
/-- a run of a comparison, tested -/
theorem cmp_test {r : R2} {g : PH → Val → Val → Option Val} (hg : Op2 T r g) (hb : IsB g) {W : WC} {σ : L2.St} {H : Hp} {Q : Bool → Hp → Prop} (q : tT T W (eBin g ma mb) σ H Q) : tTest (tOp r (tE T W ma) (tE T W mb)) σ H Q := by
  obtain ⟨U, m, ρ, h, hr, er, o⟩ := q
  unfold eBin at o
  rw [Res.bind_assoc] at o
  refine tE_then hr er o fun x H1 U1 m1 h1 v g1 hr1 er1 rx o1 => ?_
  rw [Res.bind_assoc] at o1
  refine tE_then hr1 er1 o1 fun y H2 U2 m2 h2 w g2 hr2 er2 ry o2 => ?_
  obtain ⟨z, ez⟩ : ∃ z, g h2 v w = some z := by
    cases e : g h2 v w with
    | none => rw [e] at o2; exact (show False from o2).elim
    | some z => exact ⟨z, rfl⟩
  obtain ⟨k, rfl⟩ := hb _ _ _ _ ez
  refine hg hr2 (hr1.rep g2 rx) ry ez fun z' H' ex rz => ?_
  cases rz
  refine ⟨k, rfl, ?_⟩
  rw [ez] at o2
  exact o2 H' U2 m2 (Gr.of_ext ex) (hr2.ext ex)
theorem ct_cmp {op : CmpOp} {r : R2} {g : PH → Val → Val → Option Val} (ho : XOk T X → OpR X (compareOp op) r) (hg : Op2 T r g) (hb : IsB g) (ha : CE T X a ma) (hbb : CE T X b mb) (hm : behindInMarks op b = false) : CT T X (.Compare a [op] [b] pos) (eBin g ma mb) := fun ok W tk =>
  pt_imp (pt_cmpR (ho ok) (ha ok W tk) (hbb ok W tk) hm) fun σ H Q q => cmp_test hg hb q
theorem chain_run {r r' : R2} {g g' : PH → Val → Val → Option Val} (hg : Op2 T r g) (hg' : Op2 T r' g') (hb : IsB g) {W : WC} {σ : L2.St} {H : Hp} {Q : VK} (q : tE T W (eChain g g' ma mb mc) σ H Q) : tChain r r' (tE T W ma) (tE T W mb) (tE T W mc) σ H Q := by
  obtain ⟨U, m, ρ, h, hr, er, o⟩ := q
  refine tE_then hr er o fun x H1 U1 m1 h1 v g1 hr1 er1 rx o1 => ?_
  refine tE_then hr1 er1 o1 fun y H2 U2 m2 h2 w g2 hr2 er2 ry o2 => ?_
  obtain ⟨z, ez⟩ : ∃ z, g h2 v w = some z := by
    cases e : g h2 v w with
    | none => rw [e] at o2; exact (show False from o2).elim
    | some z => exact ⟨z, rfl⟩
  obtain ⟨k, rfl⟩ := hb _ _ _ _ ez
  refine hg hr2 (hr1.rep g2 rx) ry ez fun z' H' ex rz => ?_
  cases rz
  refine ⟨k, rfl, ?_⟩
  rw [ez] at o2
  have hr3 := hr2.ext ex
  have g3 : Gr H2 U2 m2 H' U2 m2 := Gr.of_ext ex
  have er3 := hr2.env g3 er2
  cases k with
  | false =>
    rw [if_neg Bool.false_ne_true]
    exact o2 H' U2 m2 g3 hr3 _ (.bl _)
  | true =>
    rw [if_pos rfl]
    have o3 : Out T H' U2 m2 W ((mc ρ h2).bind fun w' h4 => lift (g' h4 w w') h4) fun v _ H' U' m' => ∀ x, Rep T H' U' m' v x → Q x H' := Out.step hr2 hr3 g3 o2
    refine tE_then hr3 er3 o3 fun x3 H4 U4 m4 h4 v4 g4 hr4 er4 r4 o4 => ?_
    obtain ⟨z4, ez4⟩ := Out.lift_some o4
    exact hg' hr4 (hr3.rep g4 (hr2.rep g3 ry)) r4 ez4 fun z5 H5 ex5 rz5 => Out.pure hr4 o4 ex5 ez4 z5 rz5
theorem ce_chain {op op' : CmpOp} {r r' : R2} {g g' : PH → Val → Val → Option Val} (ho : XOk T X → OpR X (compareOp op) r) (ho' : XOk T X → OpR X (compareOp op') r') (hg : Op2 T r g) (hg' : Op2 T r' g') (hbg : IsB g) (ha : CE T X a ma) (hb : CE T X b mb) (hc : CE T X c mc)
    (hm : lastMarks [op, op'] [b, c] = false := by with_unfolding_all rfl) : CE T X (.Compare a [op, op'] [b, c] pos) (eChain g g' ma mb mc) := fun ok W tk =>
  pe_imp (pe_chain (ho ok) (ho' ok) (ha ok W tk) (hb ok W tk) (hc ok W tk) hm) fun σ H Q q => chain_run hg hg' hbg q
theorem tT_tTest {t : TE} {W : WC} {me : Ex} {σ : L2.St} {H : Hp} {Q : Bool → Hp → Prop} (hb : ∀ r h z h', me r h = .ok z h' → ∃ b, z = .bl b) (q : tT T W me σ H Q) (k : ∀ Q', tE T W me σ H Q' → t σ H Q') : tTest t σ H Q := by
  obtain ⟨U, m, ρ, h, hr, er, o⟩ := q
  refine k _ ⟨U, m, ρ, h, hr, er, ?_⟩
  cases e : me ρ h with
  | ok z h' =>
    rw [e] at o
    obtain ⟨b, rfl⟩ := hb _ _ _ _ e
    intro H' U' m' g hr' x rx
    cases rx
    exact ⟨b, rfl, o H' U' m' g hr'⟩
  | exc _ _ => rw [e] at o; exact o
  | stuck => rw [e] at o; exact o
theorem eChain_B {g g' : PH → Val → Val → Option Val} (hb' : IsB g') : ∀ r h z h', eChain g g' ma mb mc r h = .ok z h' → ∃ b, z = .bl b := by
  intro r h z h' e
  unfold eChain at e
  cases e1 : ma r h with
  | ok x h1 =>
    rw [e1] at e
    simp only [Res.bind] at e
    cases e2 : mb r h1 with
    | ok y h2 =>
      rw [e2] at e
      simp only at e
      cases e3 : g h2 x y with
      | none => rw [e3] at e; cases e
      | some w =>
        rw [e3] at e
        simp only [lift] at e
        split at e
        · cases e4 : mc r h2 with
          | ok w4 h4 =>
            rw [e4] at e
            simp only at e
            cases e5 : g' h4 y w4 with
            | none => rw [e5] at e; cases e
            | some z5 => rw [e5] at e; cases e; exact hb' _ _ _ _ e5
          | exc _ _ => rw [e4] at e; cases e
          | stuck => rw [e4] at e; cases e
        · cases e; exact ⟨_, rfl⟩
        · cases e
    | exc _ _ => rw [e2] at e; cases e
    | stuck => rw [e2] at e; cases e
  | exc _ _ => rw [e1] at e; cases e
  | stuck => rw [e1] at e; cases e
theorem ct_chain {op op' : CmpOp} {r r' : R2} {g g' : PH → Val → Val → Option Val} (ho : XOk T X → OpR X (compareOp op) r) (ho' : XOk T X → OpR X (compareOp op') r') (hg : Op2 T r g) (hg' : Op2 T r' g') (hbg : IsB g) (hbg' : IsB g') (ha : CE T X a ma) (hb : CE T X b mb) (hc : CE T X c mc)
    (hm : lastMarks [op, op'] [b, c] = false := by with_unfolding_all rfl) : CT T X (.Compare a [op, op'] [b, c] pos) (eChain g g' ma mb mc) := fun ok W tk =>
  pt_imp (pt_chain (ho ok) (ho' ok) (ha ok W tk) (hb ok W tk) (hc ok W tk) hm) fun σ H Q q => tT_tTest (eChain_B hbg') q fun Q' q' => chain_run hg hg' hbg q'

/-! and, or, not, if -/
theorem ce_one {op : BoolOp} (ha : CE T X a ma) : CE T X (.BoolOp op [a] pos) ma := fun ok W tk => pe_one (ha ok W tk)
theorem ce_and (ha : CE T X a ma) (hb : CE T X (.BoolOp .And (b :: rest) pos) mb) : CE T X (.BoolOp .And (a :: b :: rest) pos) (eAnd ma mb) := fun ok W tk =>
  pe_imp (pe_and (ha ok W tk) (hb ok W tk)) fun σ H Q ⟨U, m, r, h, hr, er, o⟩ => by
    refine tE_then hr er o fun x H1 U1 m1 h1 v g1 hr1 er1 rx o1 => ?_
    split at o1
    · cases rx
      exact ⟨true, rfl, by rw [if_pos rfl]; exact ⟨U1, m1, r, h1, hr1, er1, o1⟩⟩
    · cases rx
      exact ⟨false, rfl, by rw [if_neg Bool.false_ne_true]; exact o1 H1 U1 m1 .refl hr1 _ (.bl _)⟩
    · exact (show False from o1).elim
theorem ce_or (ha : CE T X a ma) (hb : CE T X (.BoolOp .Or (b :: rest) pos) mb) : CE T X (.BoolOp .Or (a :: b :: rest) pos) (eOr ma mb) := fun ok W tk =>
  pe_imp (pe_or (ha ok W tk) (hb ok W tk)) fun σ H Q ⟨U, m, r, h, hr, er, o⟩ => by
    refine tE_then hr er o fun x H1 U1 m1 h1 v g1 hr1 er1 rx o1 => ?_
    split at o1
    · cases rx
      exact ⟨true, rfl, by rw [if_pos rfl]; exact o1 H1 U1 m1 .refl hr1 _ (.bl _)⟩
    · cases rx
      exact ⟨false, rfl, by rw [if_neg Bool.false_ne_true]; exact ⟨U1, m1, r, h1, hr1, er1, o1⟩⟩
    · exact (show False from o1).elim
theorem ce_not (ha : CE T X a ma) : CE T X (.UnaryOp .Not a pos) (eNot ma) := fun ok W tk =>
  pe_imp (pe_not (ha ok W tk)) fun σ H Q ⟨U, m, r, h, hr, er, o⟩ => by
    refine tE_then hr er o fun x H1 U1 m1 h1 v g1 hr1 er1 rx o1 => ?_
    split at o1
    · cases rx
      exact ⟨_, rfl, o1 H1 U1 m1 .refl hr1 _ (.bl _)⟩
    · exact (show False from o1).elim
theorem ce_if (hc : CT T X c mc) (ha : CE T X a ma) (hb : CE T X b mb) : CE T X (.IfExp c a b pos) (eIf mc ma mb) := fun ok W tk =>
  pe_imp (pe_ifExp (hc ok W tk) (ha ok W tk) (hb ok W tk)) fun σ H Q ⟨U, m, r, h, hr, er, o⟩ => by
    refine tT_then hr er o fun k H1 U1 m1 h1 g1 hr1 er1 o1 => ?_
    cases k with
    | true => rw [if_pos rfl]; exact ⟨U1, m1, r, h1, hr1, er1, o1⟩
    | false => rw [if_neg Bool.false_ne_true]; exact ⟨U1, m1, r, h1, hr1, er1, o1⟩
/-- within tests: what is tested need not be a truth value -/
def kAnd (a b : Ex) : Ex := fun r h => ((a r h).bind truthM).bind fun k h1 => if k then b r h1 else .ok (.bl false) h1
def kOr (a b : Ex) : Ex := fun r h => ((a r h).bind truthM).bind fun k h1 => if k then .ok (.bl true) h1 else b r h1
def kNot (a : Ex) : Ex := fun r h => ((a r h).bind truthM).bind fun k h1 => .ok (.bl (!k)) h1
theorem cw_and1 (ha : CT T X a ma) : CW T X (.BoolOp .And [a] pos) ma := fun ok W tk => pw_and1 (ha ok W tk)
theorem cw_or1 (ha : CT T X a ma) : CW T X (.BoolOp .Or [a] pos) ma := fun ok W tk => pw_or1 (ha ok W tk)
theorem ct_cw (h : CW T X e me) : CT T X e me := fun ok W tk => (h ok W tk).pt
theorem cw_and (ha : CT T X a ma) (hb : CW T X (.BoolOp .And (b :: rest) pos) mb) : CW T X (.BoolOp .And (a :: b :: rest) pos) (kAnd ma mb) := fun ok W tk =>
  pw_imp (pw_and (ha ok W tk) (hb ok W tk)) fun σ H Q ⟨U, m, r, h, hr, er, o⟩ => by
    unfold kAnd at o
    rw [Res.bind_assoc] at o
    refine tT_then hr er o fun k H1 U1 m1 h1 g1 hr1 er1 o1 => ?_
    cases k with
    | true => rw [if_pos rfl]; exact ⟨U1, m1, r, h1, hr1, er1, o1⟩
    | false => rw [if_neg Bool.false_ne_true]; exact o1 H1 U1 m1 .refl hr1
theorem cw_or (ha : CT T X a ma) (hb : CW T X (.BoolOp .Or (b :: rest) pos) mb) : CW T X (.BoolOp .Or (a :: b :: rest) pos) (kOr ma mb) := fun ok W tk =>
  pw_imp (pw_or (ha ok W tk) (hb ok W tk)) fun σ H Q ⟨U, m, r, h, hr, er, o⟩ => by
    unfold kOr at o
    rw [Res.bind_assoc] at o
    refine tT_then hr er o fun k H1 U1 m1 h1 g1 hr1 er1 o1 => ?_
    cases k with
    | true => rw [if_pos rfl]; exact o1 H1 U1 m1 .refl hr1
    | false => rw [if_neg Bool.false_ne_true]; exact ⟨U1, m1, r, h1, hr1, er1, o1⟩
theorem ct_not (ha : CT T X a ma) : CT T X (.UnaryOp .Not a pos) (kNot ma) := fun ok W tk =>
  pt_imp (pt_not (ha ok W tk)) fun σ H Q ⟨U, m, r, h, hr, er, o⟩ => by
    unfold kNot at o
    rw [Res.bind_assoc] at o
    refine tT_then hr er o fun k H1 U1 m1 h1 g1 hr1 er1 o1 => ?_
    exact o1 H1 U1 m1 .refl hr1
/-- the rules by the semantic operations -/
theorem ce_bop {op : Operator} {g : PH → Val → Val → Option Val} (ho : XOk T X → OpS T X (binaryOp op) g) (ha : CE T X a ma) (hb : CE T X b mb) : CE T X (.BinOp a op b pos) (eBin g ma mb) := fun ok => ce_op (OpS.r (@ho ok)) OpS.op ha hb ok
theorem ce_cop {op : CmpOp} {g : PH → Val → Val → Option Val} (ho : XOk T X → OpS T X (compareOp op) g) (ha : CE T X a ma) (hb : CE T X b mb) (hm : behindInMarks op b = false) : CE T X (.Compare a [op] [b] pos) (eBin g ma mb) := fun ok => ce_cmp (OpS.r (@ho ok)) OpS.op ha hb hm ok
theorem ct_cop {op : CmpOp} {g : PH → Val → Val → Option Val} (ho : XOk T X → OpS T X (compareOp op) g) (hg : IsB g) (ha : CE T X a ma) (hb : CE T X b mb) (hm : behindInMarks op b = false) : CT T X (.Compare a [op] [b] pos) (eBin g ma mb) := ct_cmp (fun ok => (OpS.r (@ho ok))) OpS.op hg ha hb hm
theorem ce_neg (ha : CE T X a ma) : CE T X (.UnaryOp .USub a pos) (eUn gNeg ma) := ce_un neg_S.r UnS.op ha
end
end SW

namespace SW
open PySem PySem.Spec PyProof.Rows L2

/-! ### subscripts -/
def gIx (h : PH) (x y : Val) : Option Val := match y with
  | .int i => (match view h x with
    | .tup xs => atI xs i
    | .lst xs => atI xs i
    | .str z => if z.length ≤ big then (atI z.cps.toList i).map fun c => .str ⟨#[c]⟩ else none
    | _ => none)
  | _ => none
section
variable {T : Tab} {X : Cx}
theorem atI_reps {H : Hp} {U : Addr → Prop} {m : List (Option Addr)} {vs : List Val} {xs : List V} {i : Int} {v : Val} (r : Reps T H U m vs xs) (e : atI vs i = some v) : ∃ x, atI xs i = some x ∧ Rep T H U m v x := by
  unfold atI at e ⊢
  rw [← r.length]
  cases q : ixN vs.length i with
  | none => rw [q] at e; cases e
  | some j =>
    rw [q] at e
    exact r.get e
theorem ix_op : Op2 T (rIx T.K) gIx := by
  intro H U m h x y xv yv v Q hr r1 r2 e k
  unfold gIx at e
  split at e
  · cases r2
    split at e
    · rename_i xs ex
      obtain ⟨a, ys, rfl, s1, q, hz⟩ := view_tup r1 ex
      obtain ⟨z, ez, rz⟩ := atI_reps q e
      exact .inr (.inl ⟨a, ys, _, z, rfl, rfl, s1, ez, k z H Ext.rfl' rz⟩)
    · rename_i xs ex
      obtain ⟨a, ys, rfl, s1, q, hz⟩ := view_lst hr r1 ex
      obtain ⟨z, ez, rz⟩ := atI_reps q e
      exact .inl ⟨a, ys, _, z, rfl, rfl, .of s1, ez, k z H Ext.rfl' rz⟩
    · rename_i z ez
      split at e
      · rename_i hz
        obtain rfl := view_eq ez (fun _ z => nomatch z)
        cases r1
        cases q : atI z.cps.toList _ with
        | none => rw [q] at e; cases e
        | some c => rw [q] at e; cases e; exact .inr (.inr ⟨z, _, c, rfl, rfl, big_line hz, q, k _ H Ext.rfl' (.str _)⟩)
      · cases e
    · cases e
  · cases e
theorem ce_ix {a b : Expr} {ma mb : Ex} {pos : Pos} (ha : CE T X a ma) (hb : CE T X b mb) (hs : PlainIx b := by exact fun _ _ => rfl) : CE T X (.Subscript a b pos) (eBin gIx ma mb) := fun ok W tk =>
  pe_imp (pe_ix (ix_seq (X := X)) (ha ok W tk) (hb ok W tk) hs) fun σ H Q q => by
    rw [ok.k]
    exact op2_run ix_op q
end

/-! ### slices -/
/-- a part of a slice -/
def tO (T : Tab) (W : WC) (me : Option Ex) : TO := fun σ H Q => match me with
  | none => Q none H
  | some me => ∃ U m r h, HR T H U m h ∧ ER T H U m r σ ∧ Out T H U m W ((me r h).bind fun v h1 => lift (match v with | .int i => some i | _ => none) h1) fun i _ H' _ _ => Q (some i) H'
def CO (T : Tab) (X : Cx) (e : Option Expr) (me : Option Ex) : Prop := XOk T X → ∀ W, Tk X W → PO X e (tO T W me)
def ePart (me : Option Ex) : Ev → SM (Option Int) := fun r h => match me with
  | none => .ok none h
  | some me => (me r h).bind fun v h1 => lift (match v with | .int i => some (some i) | _ => none) h1
def cutL {α : Type} (xs : List α) (lo hi : Option Int) : List α := (xs.drop (HT.sIx xs.length 0 lo)).take (HT.sIx xs.length xs.length hi - HT.sIx xs.length 0 lo)
def eSlc {α : Type} (g : PH → Val → Option Int → Option Int → Option α) (a : Ex) (lo hi : Option Ex) : Ev → SM α := fun r h => (a r h).bind fun x h1 => (ePart lo r h1).bind fun l h2 => (ePart hi r h2).bind fun u h3 => lift (g h3 x l u) h3
/-- of tuples and texts -/
def gCut (h : PH) (x : Val) (lo hi : Option Int) : Option Val := match view h x with
  | .tup xs => some (.tup (cutL xs lo hi))
  | _ => none
/-- of lists -/
def gCutN (h : PH) (x : Val) (lo hi : Option Int) : Option (List Val) := match view h x with
  | .lst xs => some (cutL xs lo hi)
  | .ins 0 xs => some (cutL xs lo hi)
  | _ => none
section
variable {T : Tab} {X : Cx} {a e : Expr} {ma me : Ex} {lo hi : Option Expr} {ml mh : Option Ex} {pos p2 : Pos}
theorem co_none : CO T X none none := fun ok W tk => ⟨fun pins s σ H Q I h => po_none.run pins s σ H Q I h⟩
theorem co_some (ha : CE T X e me) : CO T X (some e) (some me) := fun ok W tk => ⟨fun pins s σ H Q I h => (po_some (ha ok W tk)).run pins s σ H Q I (by
  obtain ⟨U, m, r, hh, hr, er, o⟩ := h
  refine tE_then hr er o fun x H1 U1 m1 h1 v g1 hr1 er1 rx o1 => ?_
  cases v with
  | int i =>
    cases rx
    exact ⟨i, rfl, o1 H1 U1 m1 .refl hr1⟩
  | _ => exact (show False from o1).elim)⟩
theorem cut_len {α : Type} (xs : List α) (lo hi : Option Int) : (cutL xs lo hi).length ≤ xs.length := by
  unfold cutL
  rw [List.length_take, List.length_drop]; omega
theorem cut_reps {H : Hp} {U : Addr → Prop} {m : List (Option Addr)} {vs : List Val} {xs : List V} (r : Reps T H U m vs xs) (lo hi : Option Int) : Reps T H U m (cutL vs lo hi) (cutV xs lo hi) := by
  unfold cutL cutV
  rw [r.length]
  exact (r.drop _).take _
/-- the parts of a slice, then the rest -/
theorem part_then {W : WC} {β : Type} {f : Option Int → SM β} {Kq : β → PH → Hp → (Addr → Prop) → List (Option Addr) → Prop} {σ : L2.St} {H : Hp} {U : Addr → Prop} {m : List (Option Addr)} {r : Ev} {h : PH} (hr : HR T H U m h) (er : ER T H U m r σ) (o : Out T H U m W ((ePart ml r h).bind f) Kq)
    {Q : Option Int → Hp → Prop} (k : ∀ i H1 U1 m1 h1, Gr H U m H1 U1 m1 → HR T H1 U1 m1 h1 → ER T H1 U1 m1 r σ → Out T H1 U1 m1 W (f i h1) Kq → Q i H1) : tO T W ml σ H Q := by
  cases ml with
  | none => exact k none H U m h .refl hr er o
  | some me =>
    refine ⟨U, m, r, h, hr, er, ?_⟩
    have o1 := o.bind hr
    dsimp only [ePart] at o1
    cases e1 : me r h with
    | ok v h1 =>
      rw [e1] at o1
      simp only [Res.bind] at o1 ⊢
      cases v with
      | int i => exact fun H1 U1 m1 g hr1 => k _ H1 U1 m1 h1 g hr1 (hr.env g er) (o1 H1 U1 m1 g hr1)
      | _ => exact (show False from o1).elim
    | exc _ _ => rw [e1] at o1; exact o1
    | stuck => rw [e1] at o1; exact o1
theorem ce_slc (ha : CE T X a ma) (hl : CO T X lo ml) (hh : CO T X hi mh) : CE T X (.Subscript a (.Slice lo hi none p2) pos) (eSlc gCut ma ml mh) := fun ok W tk =>
  pe_imp (pe_slice (sl_tupA (X := X)) (ha ok W tk) (hl ok W tk) (hh ok W tk)) fun σ H Q ⟨U, m, r, h, hr, er, o⟩ => by
    refine tE_then hr er o fun x H1 U1 m1 h1 v g1 hr1 er1 rx o1 => ?_
    refine part_then hr1 er1 o1 fun l H2 U2 m2 h2 g2 hr2 er2 o2 => ?_
    refine part_then hr2 er2 o2 fun u H3 U3 m3 h3 g3 hr3 er3 o3 => ?_
    obtain ⟨z, ez⟩ := Out.lift_some o3
    have e0 := ez
    unfold gCut at ez
    split at ez
    · rename_i xs ex
      cases ez
      obtain ⟨a', ys, rfl, s1, q, hz⟩ := view_tup (hr2.rep g3 (hr1.rep g2 rx)) ex
      have qc := cut_reps q l u
      refine ⟨a', ys, rfl, by rw [ok.k]; exact s1, fun ⟨e1, e2⟩ => ?_, fun _ p hp => ?_⟩
      · refine Out.pure hr3 o3 Ext.rfl' e0 _ (.tup (Nat.le_trans (cut_len _ _ _) hz) s1 ?_)
        have : cutV ys l u = ys := by unfold cutV; rw [e1, e2]; simp
        rw [← this]
        exact qc
      · exact Out.pure hr3 o3 (ext_upd hp) e0 _ (rep_newtup hr3 hp qc (Nat.le_trans (cut_len _ _ _) hz))
    · cases ez
theorem scr_view {H : Hp} {U : Addr → Prop} {m : List (Option Addr)} {h : PH} {v : Val} {x : V} {vs : List Val} (r : Rep T H U m v x) (e : view h v = .ins 0 vs) : ∃ a xs, x = .ref a ∧ SqL T.K H a xs ∧ Reps T H U m vs xs ∧ vs.length ≤ sizeLine := by
  obtain rfl := view_eq e (fun _ z => nomatch z)
  cases r with
  | scr h0 h1 h4 => exact ⟨_, _, rfl, h1.imp (·.1) id, h4, h0⟩
  | ins h0 _ _ _ _ => exact absurd rfl h0
theorem cn_slc (ha : CE T X a ma) (hl : CO T X lo ml) (hh : CO T X hi mh) : CN T X (.Subscript a (.Slice lo hi none p2) pos) (eSlc gCutN ma ml mh) := fun ok W tk =>
  pe_imp (pe_slice (sl_list (X := X)) (ha ok W tk) (hl ok W tk) (hh ok W tk)) fun σ H Q ⟨U, m, r, h, hr, er, o⟩ => by
    have o' : Out T H U m W ((ma r h).bind fun x h1 => (ePart ml r h1).bind fun l h2 => (ePart mh r h2).bind fun u h3 => lift (gCutN h3 x l u) h3) (fun vs h' H' U' m' => ∀ p xs, H' p = none → Reps T H' U' m' vs xs → vs.length ≤ sizeLine → Q (.ref p) (upd H' p (.lst xs))) := by
      cases e1 : eSlc gCutN ma ml mh r h with
      | ok vs h1 =>
        rw [e1] at o
        show Out T H U m W (eSlc gCutN ma ml mh r h) _
        rw [e1]
        exact fun H1 U1 m1 g hr1 p xs hp rx hz => o _ U1 m1 p xs (NL.of hr hr1 g hp rx hz)
      | exc _ _ =>
        rw [e1] at o
        show Out T H U m W (eSlc gCutN ma ml mh r h) _
        rw [e1]; exact o
      | stuck => rw [e1] at o; exact (show False from o).elim
    refine tE_then hr er o' fun x H1 U1 m1 h1 v g1 hr1 er1 rx o1 => ?_
    refine part_then hr1 er1 o1 fun l H2 U2 m2 h2 g2 hr2 er2 o2 => ?_
    refine part_then hr2 er2 o2 fun u H3 U3 m3 h3 g3 hr3 er3 o3 => ?_
    obtain ⟨z, ez⟩ := Out.lift_some o3
    rw [ez] at o3
    have o4 := o3 H3 U3 m3 .refl hr3
    unfold gCutN at ez
    split at ez
    · rename_i xs ex
      cases ez
      obtain ⟨a', ys, rfl, s1, q, hz⟩ := view_lst hr3 (hr2.rep g3 (hr1.rep g2 rx)) ex
      exact ⟨a', ys, rfl, .of s1, fun p hp => o4 p _ hp (cut_reps q l u) (Nat.le_trans (cut_len _ _ _) hz)⟩
    · rename_i xs ex
      cases ez
      obtain ⟨a', ys, rfl, s1, q, hz⟩ := scr_view (hr2.rep g3 (hr1.rep g2 rx)) ex
      exact ⟨a', ys, rfl, by rw [ok.k]; exact s1, fun p hp => o4 p _ hp (cut_reps q l u) (Nat.le_trans (cut_len _ _ _) hz)⟩
    · cases ez
end

/-! ### calls of what is built in -/
def eCall (g : PH → List Val → Option Val) (ms : List Ex) : Ex := fun r h => (eArgs ms r h).bind fun vs h1 => lift (g h1 vs) h1
/-- a call that gives a new list -/
def CallN (T : Tab) (X : Cx) (f : Value) (g : PH → List Val → Option (List Val)) : Prop :=
  ∀ {pins : List (Addr × Obj)} {s : Shared} {σ : L2.St} {H : Hp} {U : Addr → Prop} {m : List (Option Addr)} {h : PH} {x : List Val} {xv : List V} {v : List Value} {z : List Val},
    Inv X pins σ H s → HR T H U m h → Reps T H U m x xv → Vals xv v → g h x = some z → wpAny (model X.prog X.w) X.A (call f v) (EP X pins σ fun zv H' => ∃ H1 p xs, zv = .ref p ∧ H' = upd H1 p (.lst xs) ∧ Ext H H1 ∧ H1 p = none ∧ Reps T H1 U m z xs ∧ z.length ≤ sizeLine) X.xe s
def eCallN (g : PH → List Val → Option (List Val)) (ms : List Ex) : Ev → SM (List Val) := fun r h => (eArgs ms r h).bind fun vs h1 => lift (g h1 vs) h1
def rCN (T : Tab) (g : PH → List Val → Option (List Val)) : List V → Hp → VK → Prop := fun xv H Q => ∃ U m h x z, HR T H U m h ∧ Reps T H U m x xv ∧ g h x = some z ∧ ∀ H1 p xs, Ext H H1 → H1 p = none → Reps T H1 U m z xs → z.length ≤ sizeLine → Q (.ref p) (upd H1 p (.lst xs))
section
variable {T : Tab} {X : Cx} {e : Expr} {es : List Expr} {ms : List Ex} {p pos : Pos} {x : Str} {id Ty : String} {g : PH → List Val → Option Val} {gn : PH → List Val → Option (List Val)}
theorem CallN.r {f : Value} (o : CallN T X f gn) : CallR X f (rCN T gn) := fun pins s σ H xv v Q I rx ⟨U, m, h, x, z, hr, r1, e, k⟩ =>
  thn (o I hr r1 rx e) fun w s' ⟨zv, H', I', rv, H1, p, xs, e1, e2, ex, hp, rz, hz⟩ => ⟨zv, H', I', rv, by rw [e1, e2]; exact k H1 p xs ex hp rz hz⟩
theorem call_run {W : WC} {σ : L2.St} {H : Hp} {Q : VK} (q : tE T W (eCall g ms) σ H Q) : tCB (rC T g) (tA T W (eArgs ms)) σ H Q := by
  obtain ⟨U, m, r, h, hr, er, o⟩ := q
  refine tA_then hr er o fun xs H1 U1 m1 h1 vs _ g1 hr1 er1 rxs o1 => ?_
  obtain ⟨z, ez⟩ := Out.lift_some o1
  exact ⟨U1, m1, h1, vs, z, hr1, rxs, ez, fun zv H' ex rz => Out.pure hr1 o1 ex ez zv rz⟩
theorem callN_run {W : WC} {σ : L2.St} {H : Hp} {Q : VK} (q : tN T W (eCallN gn ms) σ H Q) : tCB (rCN T gn) (tA T W (eArgs ms)) σ H Q := by
  obtain ⟨U, m, r, h, hr, er, o⟩ := q
  have o' : Out T H U m W ((eArgs ms r h).bind fun vs h1 => lift (gn h1 vs) h1) (fun vs h' H' U' m' => ∀ p xs, H' p = none → Reps T H' U' m' vs xs → vs.length ≤ sizeLine → Q (.ref p) (upd H' p (.lst xs))) := by
    cases e1 : eCallN gn ms r h with
    | ok vs h1 =>
      rw [e1] at o
      show Out T H U m W (eCallN gn ms r h) _
      rw [e1]
      exact fun H1 U1 m1 g hr1 p xs hp rx hz => o _ U1 m1 p xs (NL.of hr hr1 g hp rx hz)
    | exc _ _ =>
      rw [e1] at o
      show Out T H U m W (eCallN gn ms r h) _
      rw [e1]; exact o
    | stuck => rw [e1] at o; exact (show False from o).elim
  refine tA_then hr er o' fun xs H1 U1 m1 h1 vs _ g1 hr1 er1 rxs o1 => ?_
  obtain ⟨z, ez⟩ := Out.lift_some o1
  refine ⟨U1, m1, h1, vs, z, hr1, rxs, ez, fun H2 p xs ex hp rz hz => ?_⟩
  rw [ez] at o1
  exact o1 H2 U1 m1 (Gr.of_ext ex) (hr1.ext ex) p xs hp rz hz
theorem ce_callB (hc : XOk T X → CallS T X (.builtin id) g) (hg : Gl X x) (hm : X.mg x = none) (hv : bootBuiltins x = some (.builtin id)) (ha : CA T X (e :: es) (eArgs ms)) (hn : x ≠ "__name__" := by decide) (hdb : (x == ("__debug__" : Str)) = false := by decide)
    (he : starEach (e :: es) X.env = (false, eval e X.env) :: starEach es X.env := by rfl) (hpl : (backTo pos (starEach es X.env)).any (·.1) = false := by rfl) : CE T X (.Call (.Name x p) (e :: es) [] pos) (eCall g ms) := fun ok W tk =>
  pe_imp (pe_callB (CallS.r (@hc ok)) hg hm hv (ha ok W tk) hn hdb he hpl) fun σ H Q q => call_run q
theorem ce_callTy (hc : XOk T X → CallS T X (.type Ty) g) (hg : Gl X x) (hm : X.mg x = none) (hv : bootBuiltins x = some (.type Ty)) (ha : CA T X (e :: es) (eArgs ms)) (hn : x ≠ "__name__" := by decide) (hdb : (x == ("__debug__" : Str)) = false := by decide)
    (he : starEach (e :: es) X.env = (false, eval e X.env) :: starEach es X.env := by rfl) (hpl : (backTo pos (starEach es X.env)).any (·.1) = false := by rfl) : CE T X (.Call (.Name x p) (e :: es) [] pos) (eCall g ms) := fun ok W tk =>
  pe_imp (pe_callTy (CallS.r (@hc ok)) hg hm hv (ha ok W tk) hn hdb he hpl) fun σ H Q q => call_run q
theorem cn_callB (hc : XOk T X → CallN T X (.builtin id) gn) (hg : Gl X x) (hm : X.mg x = none) (hv : bootBuiltins x = some (.builtin id)) (ha : CA T X (e :: es) (eArgs ms)) (hn : x ≠ "__name__" := by decide) (hdb : (x == ("__debug__" : Str)) = false := by decide)
    (he : starEach (e :: es) X.env = (false, eval e X.env) :: starEach es X.env := by rfl) (hpl : (backTo pos (starEach es X.env)).any (·.1) = false := by rfl) : CN T X (.Call (.Name x p) (e :: es) [] pos) (eCallN gn ms) := fun ok W tk =>
  pe_imp (pe_callB (CallN.r (@hc ok)) hg hm hv (ha ok W tk) hn hdb he hpl) fun σ H Q q => callN_run q
theorem cn_callTy (hc : XOk T X → CallN T X (.type Ty) gn) (hg : Gl X x) (hm : X.mg x = none) (hv : bootBuiltins x = some (.type Ty)) (ha : CA T X (e :: es) (eArgs ms)) (hn : x ≠ "__name__" := by decide) (hdb : (x == ("__debug__" : Str)) = false := by decide)
    (he : starEach (e :: es) X.env = (false, eval e X.env) :: starEach es X.env := by rfl) (hpl : (backTo pos (starEach es X.env)).any (·.1) = false := by rfl) : CN T X (.Call (.Name x p) (e :: es) [] pos) (eCallN gn ms) := fun ok W tk =>
  pe_imp (pe_callTy (CallN.r (@hc ok)) hg hm hv (ha ok W tk) hn hdb he hpl) fun σ H Q q => callN_run q
end

/-! ### which -/
def gAbs (_ : PH) : List Val → Option Val
  | [.int i] => some (.int (if i < 0 then -i else i))
  | _ => none
def gInt (_ : PH) : List Val → Option Val
  | [.int i] => some (.int i)
  | [.bl k] => some (.int (if k then 1 else 0))
  | _ => none
def gLen (h : PH) : List Val → Option Val
  | [x] => (match view h x with
    | .lst xs => some (.int xs.length)
    | .tup xs => some (.int xs.length)
    | .str z => if z.length ≤ big then some (.int z.length) else none
    | _ => none)
  | _ => none
/-- tuple(a list), tuple(a tuple) -/
def gTuple (h : PH) : List Val → Option Val
  | [x] => (match view h x with
    | .lst xs => some (.tup xs)
    | .tup xs => some (.tup xs)
    | _ => none)
  | _ => none
def gListN (h : PH) : List Val → Option (List Val)
  | [x] => (match view h x with
    | .lst xs => some xs
    | .tup xs => some xs
    | _ => none)
  | _ => none
/-- truth values alone -/
def bls : List Val → Option (List Bool)
  | [] => some []
  | .bl b :: r => (bls r).map (b :: ·)
  | _ => none
def gAll (h : PH) : List Val → Option Val
  | [x] => (match view h x with
    | .lst xs => (bls xs).map fun bs => .bl (bs.all id)
    | _ => none)
  | _ => none
def gAny (h : PH) : List Val → Option Val
  | [x] => (match view h x with
    | .lst xs => (bls xs).map fun bs => .bl (bs.any id)
    | _ => none)
  | _ => none
def intsV : List Val → Option (List Int)
  | [] => some []
  | .int b :: r => (intsV r).map (b :: ·)
  | _ => none
def gSum (h : PH) : List Val → Option Val
  | [x] => (match view h x with
    | .lst xs => (intsV xs).map fun bs => .int bs.sum
    | _ => none)
  | _ => none
def gMax2 (_ : PH) : List Val → Option Val
  | [.int i, .int j] => some (.int (if j > i then j else i))
  | _ => none
def gMin2 (_ : PH) : List Val → Option Val
  | [.int i, .int j] => some (.int (if j < i then j else i))
  | _ => none
section
variable {T : Tab} {X : Cx}
theorem bls_reps {H : Hp} {U : Addr → Prop} {m : List (Option Addr)} : ∀ {vs : List Val} {xs : List V} {bs : List Bool}, Reps T H U m vs xs → bls vs = some bs → xs = bs.map V.bl
  | [], _, _, r, e => by cases r; cases e; rfl
  | v :: vs, _, bs, r, e => by
    cases r with
    | cons r1 r2 =>
      cases v <;> simp only [bls] at e <;> try (cases e; done)
      rename_i b
      cases q : bls vs with
      | none => rw [q] at e; cases e
      | some cs =>
        rw [q] at e; cases e
        cases r1
        rw [bls_reps r2 q]; rfl
theorem ints_reps {H : Hp} {U : Addr → Prop} {m : List (Option Addr)} : ∀ {vs : List Val} {xs : List V} {bs : List Int}, Reps T H U m vs xs → intsV vs = some bs → xs = bs.map V.int
  | [], _, _, r, e => by cases r; cases e; rfl
  | v :: vs, _, bs, r, e => by
    cases r with
    | cons r1 r2 =>
      cases v <;> simp only [intsV] at e <;> try (cases e; done)
      rename_i b
      cases q : intsV vs with
      | none => rw [q] at e; cases e
      | some cs =>
        rw [q] at e; cases e
        cases r1
        rw [ints_reps r2 q]; rfl
theorem one_reps {H : Hp} {U : Addr → Prop} {m : List (Option Addr)} {v : Val} {xs : List V} (r : Reps T H U m [v] xs) : ∃ x, xs = [x] ∧ Rep T H U m v x := by
  cases r with
  | cons r1 r2 => cases r2; exact ⟨_, rfl, r1⟩
theorem two_reps {H : Hp} {U : Addr → Prop} {m : List (Option Addr)} {v w : Val} {xs : List V} (r : Reps T H U m [v, w] xs) : ∃ x y, xs = [x, y] ∧ Rep T H U m v x ∧ Rep T H U m w y := by
  cases r with
  | cons r1 r2 => cases r2 with | cons r3 r4 => cases r4; exact ⟨_, _, rfl, r1, r3⟩
theorem abs_S : CallS T X (.builtin "abs") gAbs := CallS.of call_abs fun hr r e k => by
  unfold gAbs at e
  split at e
  · cases e
    obtain ⟨x, rfl, r1⟩ := one_reps r
    cases r1
    exact ⟨_, rfl, k _ _ Ext.rfl' (.int _)⟩
  · cases e
theorem int_S : CallS T X (.type "int") gInt := CallS.of call_int1 fun hr r e k => by
  unfold gInt at e
  split at e
  · cases e
    obtain ⟨x, rfl, r1⟩ := one_reps r
    cases r1
    exact .inl ⟨_, rfl, k _ _ Ext.rfl' (.int _)⟩
  · cases e
    obtain ⟨x, rfl, r1⟩ := one_reps r
    cases r1
    exact .inr ⟨_, rfl, k _ _ Ext.rfl' (.int _)⟩
  · cases e
theorem max2_S (ok : XOk T X) : CallS T X (.builtin "max") gMax2 := CallS.of (call_max2 ok.calm) fun hr r e k => by
  unfold gMax2 at e
  split at e
  · cases e
    obtain ⟨x, y, rfl, r1, r2⟩ := two_reps r
    cases r1; cases r2
    exact ⟨_, _, rfl, k _ _ Ext.rfl' (.int _)⟩
  · cases e
theorem min2_S (ok : XOk T X) : CallS T X (.builtin "min") gMin2 := CallS.of (call_min2 ok.calm) fun hr r e k => by
  unfold gMin2 at e
  split at e
  · cases e
    obtain ⟨x, y, rfl, r1, r2⟩ := two_reps r
    cases r1; cases r2
    exact ⟨_, _, rfl, k _ _ Ext.rfl' (.int _)⟩
  · cases e
theorem tuple_S (ok : XOk T X) : CallS T X (.type "tuple") gTuple := CallS.of (call_tuple_of (X := X)) fun hr r e k => by
  unfold gTuple at e
  split at e
  · obtain ⟨x, rfl, r1⟩ := one_reps r
    split at e
    · rename_i xs ex
      cases e
      obtain ⟨a, ys, rfl, s1, q, hz⟩ := view_lst hr r1 ex
      exact ⟨a, ys, rfl, .inl ⟨.of s1, fun l hl => k _ _ (ext_upd hl) (rep_newtup hr hl q hz)⟩⟩
    · rename_i xs ex
      cases e
      obtain ⟨a, ys, rfl, s1, q, hz⟩ := view_tup r1 ex
      exact ⟨a, ys, rfl, .inr ⟨by rw [ok.k]; exact s1, k _ _ Ext.rfl' (.tup hz s1 q)⟩⟩
    · cases e
  · cases e
theorem CallN.of {f : Value} {r : List V → Hp → VK → Prop} {g : PH → List Val → Option (List Val)} (o : CallR X f r) (k : ∀ {H : Hp} {U : Addr → Prop} {m : List (Option Addr)} {h : PH} {x : List Val} {xv : List V} {z : List Val} {Q : VK}, HR T H U m h → Reps T H U m x xv → g h x = some z → (∀ H1 p xs, Ext H H1 → H1 p = none → Reps T H1 U m z xs → z.length ≤ sizeLine → Q (.ref p) (upd H1 p (.lst xs))) → r xv H Q) : CallN T X f g :=
  fun I hr r1 rx e => o _ _ _ _ _ _ _ I rx (k hr r1 e fun H1 p xs ex hp rz hz => ⟨H1, p, xs, rfl, rfl, ex, hp, rz, hz⟩)
theorem list_S (ok : XOk T X) : CallN T X (.type "list") gListN := CallN.of (call_list_of (X := X)) fun hr r e k => by
  unfold gListN at e
  split at e
  · obtain ⟨x, rfl, r1⟩ := one_reps r
    split at e
    · rename_i xs ex
      cases e
      obtain ⟨a, ys, rfl, s1, q, hz⟩ := view_lst hr r1 ex
      exact ⟨a, ys, rfl, .inl (.of s1), fun l hl => k _ _ _ Ext.rfl' hl q hz⟩
    · rename_i xs ex
      cases e
      obtain ⟨a, ys, rfl, s1, q, hz⟩ := view_tup r1 ex
      exact ⟨a, ys, rfl, .inr (by rw [ok.k]; exact s1), fun l hl => k _ _ _ Ext.rfl' hl q hz⟩
    · cases e
  · cases e
theorem all_S (ok : XOk T X) : CallS T X (.builtin "all") gAll := CallS.of (cr_all ok.calm) fun hr r e k => by
  unfold gAll at e
  split at e
  · obtain ⟨x, rfl, r1⟩ := one_reps r
    split at e
    · rename_i xs ex
      obtain ⟨a, ys, rfl, s1, q, hz⟩ := view_lst hr r1 ex
      cases eb : bls xs with
      | none => rw [eb] at e; cases e
      | some bs =>
        rw [eb] at e; cases e
        exact ⟨a, bs, rfl, by rw [← bls_reps q eb]; exact .of s1, k _ _ Ext.rfl' (.bl _)⟩
    · cases e
  · cases e
theorem any_S (ok : XOk T X) : CallS T X (.builtin "any") gAny := CallS.of (cr_any ok.calm) fun hr r e k => by
  unfold gAny at e
  split at e
  · obtain ⟨x, rfl, r1⟩ := one_reps r
    split at e
    · rename_i xs ex
      obtain ⟨a, ys, rfl, s1, q, hz⟩ := view_lst hr r1 ex
      cases eb : bls xs with
      | none => rw [eb] at e; cases e
      | some bs =>
        rw [eb] at e; cases e
        exact ⟨a, bs, rfl, by rw [← bls_reps q eb]; exact .of s1, k _ _ Ext.rfl' (.bl _)⟩
    · cases e
  · cases e
theorem sum_S (ok : XOk T X) : CallS T X (.builtin "sum") gSum := CallS.of (cr_sum ok.calm) fun hr r e k => by
  unfold gSum at e
  split at e
  · obtain ⟨x, rfl, r1⟩ := one_reps r
    split at e
    · rename_i xs ex
      obtain ⟨a, ys, rfl, s1, q, hz⟩ := view_lst hr r1 ex
      cases eb : intsV xs with
      | none => rw [eb] at e; cases e
      | some bs =>
        rw [eb] at e; cases e
        exact ⟨a, bs, rfl, by rw [← ints_reps q eb]; exact .of s1, k _ _ Ext.rfl' (.int _)⟩
    · cases e
  · cases e
theorem len_S (ok : XOk T X) : CallS T X (.builtin "len") gLen := CallS.of (call_len (X := X)) fun hr r e k => by
  unfold gLen at e
  split at e
  · obtain ⟨x, rfl, r1⟩ := one_reps r
    split at e
    · rename_i xs ex
      cases e
      obtain ⟨a, ys, rfl, s1, q, hz⟩ := view_lst hr r1 ex
      exact ⟨_, ys.length, rfl, .inl ⟨ys, .of s1, rfl⟩, by rw [q.length] at k; exact k _ _ Ext.rfl' (.int _)⟩
    · rename_i xs ex
      cases e
      obtain ⟨a, ys, rfl, s1, q, hz⟩ := view_tup r1 ex
      exact ⟨_, ys.length, rfl, .inr ⟨ys, by rw [ok.k]; exact s1, rfl⟩, by rw [q.length] at k; exact k _ _ Ext.rfl' (.int _)⟩
    · rename_i z ez
      split at e
      · rename_i hz
        cases e
        obtain rfl := view_eq ez (fun _ z => nomatch z)
        cases r1
        exact ⟨_, z.length, rfl, ⟨big_line hz, rfl⟩, k _ _ Ext.rfl' (.int _)⟩
      · cases e
    · cases e
  · cases e
/-- either -/
def orG (g g' : PH → List Val → Option Val) : PH → List Val → Option Val := fun h xs => match g h xs with
  | some z => some z
  | none => g' h xs
theorem CallS.or {f : Value} {g g' : PH → List Val → Option Val} (a : CallS T X f g) (b : CallS T X f g') : CallS T X f (orG g g') := fun I hr r rx e => by
  unfold orG at e
  split at e
  · rename_i e1
    cases e
    exact a I hr r rx e1
  · exact b I hr r rx e
end
end SW

namespace SW
open PySem PySem.Spec PyProof.Rows L2

/-! ### a located list given up: from now on it is a value -/
def eMove (i : Nat) : Ex := fun r h => match r.getD i none with
  | some (.ref l) => (match h[l]? with | some (.lst xs) => .ok (.lst xs) (h.set l .non) | _ => .stuck)
  | some v => .ok v h
  | none => .stuck
section
variable {T : Tab} {X : Cx} {pos : Pos}
theorem HR.move {H : Hp} {U : Addr → Prop} {m : List (Option Addr)} {h : PH} (x : HR T H U m h) {l : Nat} {a : Addr} (e : m[l]? = some (some a)) : Gr H U m H (fun b => U b ∧ b ≠ a) (m.set l none) ∧ HR T H (fun b => U b ∧ b ≠ a) (m.set l none) (h.set l .non) ∧ Gw H U m H (fun b => U b ∧ b ≠ a) (m.set l none) := by
  have old : ∀ (k : Nat) (b : Addr), (m.set l none)[k]? = some (some b) → m[k]? = some (some b) ∧ k ≠ l := fun k b q => by
    by_cases hk : l = k
    · subst hk
      rw [List.getElem?_set, if_pos rfl] at q
      split at q <;> cases q
    · rw [List.getElem?_set_ne hk] at q
      exact ⟨q, fun z => hk z.symm⟩
  have gw : Gw H U m H (fun b => U b ∧ b ≠ a) (m.set l none) := ⟨fun _ _ _ e => e, fun _ z => .inl z.1, by simp, fun k b _ q => (old k b q).1⟩
  refine ⟨⟨fun _ _ _ e => e, fun _ z => .inl z.1, ⟨by simp, fun k b _ q => (old k b q).1, fun k b hk q => ?_⟩, fun _ z => z, fun b h1 _ h3 => ⟨h1, fun z => h3 ⟨l, by rw [z]; exact e⟩⟩⟩, ⟨by simp [x.len], fun k k' b q q' => x.nd k k' b (old k b q).1 (old k' b q').1, fun b ⟨k, q⟩ => ⟨x.sub b ⟨k, (old k b q).1⟩, fun z => ?_⟩, fun b hb => x.us b hb.1, fun k w q => ?_⟩, gw⟩
  · have := (List.getElem?_eq_some_iff.mp q).1
    simp at this; omega
  · subst z
    exact (old k b q).2 (x.nd _ _ _ (old k b q).1 e)
  · by_cases hk : l = k
    · subst hk
      rw [List.getElem?_set] at q
      split at q
      · rename_i hl
        split at q
        · cases q
          exact .inl ⟨by rw [List.getElem?_set]; rw [if_pos rfl, if_pos (List.getElem?_eq_some_iff.mp e).1], rfl⟩
        · cases q
      · rename_i z; exact absurd rfl z
    · rw [List.getElem?_set_ne hk] at q
      rcases x.obj k w q with ⟨e1, e2⟩ | ⟨b, e1, e2⟩
      · exact .inl ⟨by rw [List.getElem?_set_ne hk]; exact e1, e2⟩
      · exact .inr ⟨b, by rw [List.getElem?_set_ne hk]; exact e1, e2.gw x.us gw rfl⟩
theorem ce_move (i : Nat) {x : Str} (hN : X.N[i]? = some x := by rfl) (hv : Vis X.env.scope x := by first | exact Or.inl rfl | exact Or.inr (Or.inl rfl) | exact Or.inr (Or.inr rfl)) (hd : (x == ("__debug__" : Str)) = false := by decide)
    (hcd : (x == ("__classdict__" : Str)) = false := by decide) : CE T X (.Name x pos) (eMove i) := fun _ W tk => pe_imp (pe_var hN hv hd hcd) fun σ H Q ⟨U, m, r, h, hr, er, o⟩ => by
  unfold eMove at o
  have get : ∀ v, r.getD i none = some v → ∃ x, σ[i]? = some (some x) ∧ Rep T H U m v x := fun v e => by
    rw [List.getD_eq_getElem?_getD] at e
    cases q : r[i]? with
    | none => rw [q] at e; cases e
    | some z => rw [q] at e; exact er.val i v (by rw [q]; exact congrArg some e)
  split at o
  · rename_i l el
    obtain ⟨x, e2, rx⟩ := get _ el
    split at o
    · rename_i xs eh
      rcases hr.obj l _ eh with ⟨_, e0⟩ | ⟨a, e1, ob⟩
      · cases e0
      · cases rx with
        | ref hl e =>
          obtain rfl := e a e1
          obtain ⟨ys, ey, rs, hz⟩ := ob
          obtain ⟨g, hr', gw⟩ := hr.move e1
          exact ⟨_, e2, o H _ _ g hr' _ (.lst hz ey (fun z => z.2 rfl) (Reps.gr gw hr.us rs))⟩
    · exact (show False from o).elim
  · rename_i v ev
    obtain ⟨x, e2, rx⟩ := get _ ev
    exact ⟨x, e2, o H U m .refl hr x rx⟩
  · exact (show False from o).elim
end

/-! ### isinstance of built-in types -/
inductive Ty where
  | non | bool | int | str | tup | lst | dct
def Ty.name : Ty → String
  | .non => "NoneType" | .bool => "bool" | .int => "int" | .str => "str" | .tup => "tuple" | .lst => "list" | .dct => "dict"
def isiB : Ty → Ty → Bool
  | .non, .non => true | .bool, .bool => true | .bool, .int => true | .int, .int => true | .str, .str => true | .tup, .tup => true | .lst, .lst => true | .dct, .dct => true
  | _, _ => false
theorem kit_isi : ∀ t c : Ty, c = .non ∨ kitB t.name c.name = some (isiB t c) := by
  intro t c
  cases c
  · exact .inl rfl
  all_goals exact .inr (by cases t <;> decide +kernel)
def tag (h : PH) (v : Val) : Option Ty := match view h v with
  | .non => some .non
  | .bl _ => some .bool
  | .int _ => some .int
  | .str _ => some .str
  | .tup _ => some .tup
  | .lst _ => some .lst
  | .dct _ _ => some .dct
  | _ => none
def gIsi (c : Ty) (h : PH) (v : Val) : Option Val := (tag h v).map fun t => .bl (isiB t c)
def gIsi2 (c d : Ty) (h : PH) (v : Val) : Option Val := (tag h v).map fun t => .bl (isiB t c || isiB t d)
section
variable {T : Tab} {X : Cx} {a : Expr} {ma : Ex} {pos p p1 p2 p3 : Pos}
theorem tag_ty {H : Hp} {U : Addr → Prop} {m : List (Option Addr)} {h : PH} {v : Val} {x : V} {t : Ty} (hr : HR T H U m h) (r : Rep T H U m v x) (e : tag h v = some t) : TyX T.K H x (.type t.name) := by
  have atom : ∀ {z}, view h v = z → (∀ ys, z ≠ .lst ys) → (∀ ks vs, z ≠ .dct ks vs) → Rep T H U m z x := fun {z} e1 h1 h2 => by
    have := view_eq e1 h1 h2
    subst this; exact r
  unfold tag at e
  cases q : view h v with
  | non => rw [q] at e; cases e; have r' := atom q (fun _ z => nomatch z) (fun _ _ z => nomatch z); cases r'; exact .base .non
  | bl b => rw [q] at e; cases e; have r' := atom q (fun _ z => nomatch z) (fun _ _ z => nomatch z); cases r'; exact .base (.bl _)
  | int b => rw [q] at e; cases e; have r' := atom q (fun _ z => nomatch z) (fun _ _ z => nomatch z); cases r'; exact .base (.int _)
  | str b => rw [q] at e; cases e; have r' := atom q (fun _ z => nomatch z) (fun _ _ z => nomatch z); cases r'; exact .base (.str _)
  | tup xs =>
    rw [q] at e; cases e
    obtain ⟨b, ys, rfl, s1, _, _⟩ := view_tup r q
    rcases s1 with (s1 | ⟨o, s1⟩) | ⟨o, its, n, s1, s2, _⟩
    · exact .base (.tup s1)
    · exact .fTuple s1
    · exact .kTuple s1 s2
  | lst xs =>
    rw [q] at e; cases e
    obtain ⟨b, ys, rfl, s1, _, _⟩ := view_lst hr r q
    exact .base (.lst s1)
  | dct ks vs =>
    rw [q] at e; cases e
    cases v with
    | dct ks' vs' =>
      cases r with
      | dK h1 _ _ _ => exact .base (.dK h1)
      | dT h1 _ _ _ => exact .base (.dT h1)
    | ref l =>
      cases ql : h[l]? with
      | none => simp [view, ql] at q
      | some o =>
        cases r with
        | ref hl er =>
          rcases hr.obj l o ql with ⟨_, e0⟩ | ⟨b, e1, ob⟩
          · subst e0; simp [view, ql] at q
          · obtain rfl := er b e1
            cases o with
            | dct ks' vs' =>
              rcases ob with ⟨kvs, h1, _⟩ | ⟨kvs, h1, _⟩
              · exact .base (.dK h1)
              · exact .base (.dT h1)
            | _ => simp [view, ql] at q
    | _ => simp [view] at q
  | ins c fs => rw [q] at e; cases e
  | ref l => rw [q] at e; cases e
theorem ce_isi (c : Ty) (hc : c ≠ .non) {x xT : Str} (ha : CE T X a ma) (hg : Gl X x) (hm : X.mg x = none) (hv : bootBuiltins x = some (.builtin "isinstance")) (hgT : Gl X xT) (hmT : X.mg xT = none) (hvT : bootBuiltins xT = some (.type c.name))
    (hn : x ≠ "__name__" := by decide) (hdb : (x == ("__debug__" : Str)) = false := by decide) (hnT : xT ≠ "__name__" := by decide) (hdT : (xT == ("__debug__" : Str)) = false := by decide)
    (he : starEach [a, .Name xT p1] X.env = (false, eval a X.env) :: starEach [.Name xT p1] X.env := by rfl) (he2 : starEach [.Name xT p1] X.env = (false, eval (.Name xT p1) X.env) :: starEach [] X.env := by rfl) (hpl : (backTo pos (starEach [.Name xT p1] X.env)).any (·.1) = false := by rfl) :
    CE T X (.Call (.Name x p) [a, .Name xT p1] [] pos) (eUn (gIsi c) ma) := fun ok W tk =>
  pe_imp (pe_callB (call_isi (X := X)) hg hm hv (pa_cons (ha ok W tk) (pa_cons (pe_bltn (v := .ty c.name) hgT hmT hvT rfl hnT hdT) pa_nil he2) he) hn hdb he hpl) fun σ H Q ⟨U, m, r, h, hr, er, o⟩ => by
    refine tE_then hr er o fun y H1 U1 m1 h1 v g1 hr1 er1 rx o1 => ?_
    obtain ⟨z, ez⟩ := Out.lift_some o1
    have e0 := ez
    unfold gIsi at ez
    cases et : tag h1 v with
    | none => rw [et] at ez; cases ez
    | some t =>
      rw [et] at ez; cases ez
      refine ⟨y, .ty c.name, .type t.name, .type c.name, isiB t c, rfl, .ty _, by rw [ok.k]; exact tag_ty hr1 rx et, ?_, Out.pure hr1 o1 Ext.rfl' e0 _ (.bl _)⟩
      exact kit_ty ((kit_isi t c).resolve_left hc)
theorem kitAny2 {K : PySem.W.Frag} {t c d : Value} {b b' : Bool} (h : PySem.W.kitOne K t c = some b) (h' : PySem.W.kitOne K t d = some b') : PySem.W.kitAny K t [c, d] = some (b || b') := by
  refine kitAny_cons h (fun e => ?_) (fun e => by rw [e]; rfl)
  subst e
  exact kitAny_cons h' (fun e => by subst e; rfl) (fun e => by rw [e]; rfl)
theorem ce_isi2 (c d : Ty) (hc : c ≠ .non) (hd : d ≠ .non) {x xT xS : Str} {kk : Nat} (ha : CE T X a ma) (hg : Gl X x) (hm : X.mg x = none) (hv : bootBuiltins x = some (.builtin "isinstance")) (hgT : Gl X xT) (hmT : X.mg xT = none) (hvT : bootBuiltins xT = some (.type c.name))
    (hgS : Gl X xS) (hmS : X.mg xS = none) (hvS : bootBuiltins xS = some (.type d.name))
    (hn : x ≠ "__name__" := by decide) (hdb : (x == ("__debug__" : Str)) = false := by decide) (hnT : xT ≠ "__name__" := by decide) (hdT : (xT == ("__debug__" : Str)) = false := by decide) (hnS : xS ≠ "__name__" := by decide) (hdS : (xS == ("__debug__" : Str)) = false := by decide)
    (he : starEach [a, .Tuple [.Name xT p1, .Name xS p2] kk p3] X.env = (false, eval a X.env) :: starEach [.Tuple [.Name xT p1, .Name xS p2] kk p3] X.env := by rfl) (he2 : starEach [.Tuple [.Name xT p1, .Name xS p2] kk p3] X.env = (false, eval (.Tuple [.Name xT p1, .Name xS p2] kk p3) X.env) :: starEach [] X.env := by rfl)
    (he3 : starEach [.Name xT p1, .Name xS p2] X.env = (false, eval (.Name xT p1) X.env) :: starEach [.Name xS p2] X.env := by rfl) (he4 : starEach [.Name xS p2] X.env = (false, eval (.Name xS p2) X.env) :: starEach [] X.env := by rfl)
    (hpl : (backTo pos (starEach [.Tuple [.Name xT p1, .Name xS p2] kk p3] X.env)).any (·.1) = false := by rfl) :
    CE T X (.Call (.Name x p) [a, .Tuple [.Name xT p1, .Name xS p2] kk p3] [] pos) (eUn (gIsi2 c d) ma) := fun ok W tk =>
  pe_imp (pe_callB (call_isiT (X := X)) hg hm hv (pa_cons (ha ok W tk) (pa_cons (pe_tup (pa_cons (pe_bltn (v := .ty c.name) hgT hmT hvT rfl hnT hdT) (pa_cons (pe_bltn (v := .ty d.name) hgS hmS hvS rfl hnS hdS) pa_nil he4) he3)) pa_nil he2) he) hn hdb he hpl) fun σ H Q ⟨U, m, r, h, hr, er, o⟩ => by
    refine tE_then hr er o fun y H1 U1 m1 h1 v g1 hr1 er1 rx o1 => ?_
    obtain ⟨z, ez⟩ := Out.lift_some o1
    have e0 := ez
    unfold gIsi2 at ez
    cases et : tag h1 v with
    | none => rw [et] at ez; cases ez
    | some t =>
      rw [et] at ez; cases ez
      refine ⟨by show 2 ≤ sizeLine; rw [sizeLine_eq]; omega, fun q hq => ?_⟩
      have ex : Ext H1 (upd H1 q (.tup [.ty c.name, .ty d.name])) := ext_upd hq
      refine ⟨y, q, [.ty c.name, .ty d.name], .type t.name, [.type c.name, .type d.name], isiB t c || isiB t d, rfl, upd_same, .cons (.ty _) (.cons (.ty _) .nil), by rw [ok.k]; exact tag_ty (hr1.ext ex) (hr1.rep_ext ex rx) et, ?_, Out.pure hr1 o1 ex e0 _ (.bl _)⟩
      exact kitAny2 (kit_ty ((kit_isi t c).resolve_left hc)) (kit_ty ((kit_isi t d).resolve_left hd))
end

/-! ### methods of located lists -/
/-- o.m(..) where o is a located list: g gives its new items and the value -/
def eMet (g : PH → List Val → List Val → Option (List Val × Val)) (o : Ex) (ms : List Ex) : Ex := fun r h => (o r h).bind fun x h1 => match x with
  | .ref l => (match h1[l]? with
    | some (.lst _) => (eArgs ms r h1).bind fun vs h2 => (match h2[l]? with
      | some (.lst xs) => (match g h2 xs vs with
        | some (ys, z) => .ok z (h2.set l (.lst ys))
        | none => .stuck)
      | _ => .stuck)
    | _ => .stuck)
  | _ => .stuck
/-- a rule for such a method is met by g -/
def MetW (T : Tab) (r : V → List V → Hp → VK → Prop) (g : PH → List Val → List Val → Option (List Val × Val)) : Prop :=
  ∀ {H : Hp} {U : Addr → Prop} {m : List (Option Addr)} {h : PH} {a : Addr} {xs vs ys : List Val} {xv vv : List V} {z : Val} {Q : VK}, HR T H U m h → Lv m a → H a = some (.lst xv) → Reps T H U m xs xv → xs.length ≤ sizeLine → Reps T H U m vs vv → g h xs vs = some (ys, z) →
    (∀ yv zv, Reps T H U m ys yv → ys.length ≤ sizeLine → Rep T H U m z zv → Q zv (upd H a (.lst yv))) → r (.ref a) vv H Q
section
variable {T : Tab} {X : Cx} {o e : Expr} {es : List Expr} {mo : Ex} {ms : List Ex} {name : Str} {apos cpos : Pos} {id : String} {r : V → List V → Hp → VK → Prop} {g : PH → List Val → List Val → Option (List Val × Val)}
theorem met_fin {W : WC} {H : Hp} {U : Addr → Prop} {m : List (Option Addr)} {h : PH} {l : Nat} {xs vs : List Val} {vv : List V} {a : Addr} {Q : VK} (hg : MetW T r g) (hr : HR T H U m h) (e1 : m[l]? = some (some a)) (ob : h[l]? = some (.lst xs)) (rv : Reps T H U m vs vv)
    (o : Out T H U m W (match g h xs vs with | some (ys, z) => Res.ok z (h.set l (.lst ys)) | none => .stuck) fun v _ H' U' m' => ∀ x, Rep T H' U' m' v x → Q x H') : r (.ref a) vv H Q := by
  have lv : Lv m a := ⟨l, e1⟩
  rcases hr.obj l _ ob with ⟨_, e0⟩ | ⟨b, e2, xv, ea, rs, hz⟩
  · cases e0
  · rw [e1] at e2; cases e2
    cases q : g h xs vs with
    | none => rw [q] at o; exact (show False from o).elim
    | some yz =>
      obtain ⟨ys, z⟩ := yz
      rw [q] at o
      refine hg hr lv ea rs hz rv q fun yv zv ry hy rz => ?_
      have gr : Gr H U m (upd H a (.lst yv)) U m := Gr.write lv
      exact o _ U m gr (hr.write e1 ⟨yv, upd_same, hr.reps gr ry, hy⟩) zv (hr.rep gr rz)
theorem ce_met (hg : MetW T r g) (hm : MtR X id r) (slot : Slot "list" name id) (hty : typeOf (.builtin id) = pure (.type "method_descriptor")) (ho : CE T X o mo) (ha : CA T X (e :: es) (eArgs ms))
    (hbase : attributeBase o name X.env (eval o X.env) = eval o X.env := by rfl)
    (hfew : ((backTo cpos (starEach (e :: es) X.env)).all (fun x => !x.1) && (backToKw cpos (keywordEach [] X.env)).all (fun x => x.1.isSome)
      && decide ((e :: es).length + ([] : List Keyword).length + (if ([] : List Keyword).isEmpty then 0 else 1) < 30)) = true := by rfl)
    (hline : (apos.endLine == cpos.line) = true := by rfl) (hs : starEach (e :: es) X.env = (false, eval e X.env) :: starEach es X.env := by rfl) (hplain : (backTo cpos (starEach es X.env)).any (·.1) = false := by rfl) :
    CE T X (.Call (.Attribute o name apos) (e :: es) [] cpos) (eMet g mo ms) := fun ok W tk =>
  pe_imp (pe_bm PySem.F.plainAttrs_list slot hty hm (ho ok W tk) (ha ok W tk) hbase hfew hline hs hplain) fun σ H Q ⟨U, m, rr, h, hr, er, oo⟩ => by
    refine tE_then hr er oo fun x H1 U1 m1 h1 v g1 hr1 er1 rx o1 => ?_
    split at o1
    · rename_i l
      split at o1
      · rename_i xs0 ex
        obtain ⟨a, e1, rfl⟩ := rep_alive hr1 rx (by simp [alive, ex])
        have tl : tyV X.K "list" (.ref a) H1 := by
          rcases hr1.obj l _ ex with ⟨_, e0⟩ | ⟨b, e2, xv, ea, _, _⟩
          · cases e0
          · rw [e1] at e2; cases e2
            exact .inl ⟨rfl, _, .of ea⟩
        refine ⟨tl, tA_then hr1 er1 o1 fun vv H2 U2 m2 h2 vs _ g2 hr2 er2 rv o2 => ?_⟩
        split at o2
        · rename_i xs ex2
          have rx2 := hr1.rep g2 rx
          obtain ⟨a', e1', ea'⟩ := rep_alive hr2 rx2 (by simp [alive, ex2])
          cases ea'
          exact met_fin hg hr2 e1' ex2 rv o2
        · exact (show False from o2).elim
      · exact (show False from o1).elim
    · exact (show False from o1).elim
theorem ce_met0 (hg : MetW T r g) (hm : MtR X id r) (slot : Slot "list" name id) (hty : typeOf (.builtin id) = pure (.type "method_descriptor")) (ho : CE T X o mo)
    (hbase : attributeBase o name X.env (eval o X.env) = eval o X.env := by rfl) (hline : (apos.endLine == cpos.line) = true := by rfl) : CE T X (.Call (.Attribute o name apos) [] [] cpos) (eMet g mo []) := fun ok W tk =>
  pe_imp (pe_bm0 PySem.F.plainAttrs_list slot hty hm (ho ok W tk) hbase hline) fun σ H Q ⟨U, m, rr, h, hr, er, oo⟩ => by
    refine tE_then hr er oo fun x H1 U1 m1 h1 v g1 hr1 er1 rx o1 => ?_
    split at o1
    · rename_i l
      split at o1
      · rename_i xs0 ex
        obtain ⟨a, e1, rfl⟩ := rep_alive hr1 rx (by simp [alive, ex])
        have tl : tyV X.K "list" (.ref a) H1 := by
          rcases hr1.obj l _ ex with ⟨_, e0⟩ | ⟨b, e2, xv, ea, _, _⟩
          · cases e0
          · rw [e1] at e2; cases e2
            exact .inl ⟨rfl, _, .of ea⟩
        refine ⟨tl, ?_⟩
        have o2 : Out T H1 U1 m1 W (match h1[l]? with
          | some (.lst xs) => (match g h1 xs [] with
            | some (ys, z) => Res.ok z (h1.set l (.lst ys))
            | none => .stuck)
          | _ => .stuck) fun v _ H' U' m' => ∀ x, Rep T H' U' m' v x → Q x H' := o1
        rw [ex] at o2
        exact met_fin hg hr1 e1 ex .nil o2
      · exact (show False from o1).elim
    · exact (show False from o1).elim
end
def gAppend (_ : PH) (xs : List Val) : List Val → Option (List Val × Val)
  | [v] => if xs.length < big then some (xs ++ [v], .non) else none
  | _ => none
def gExtend (h : PH) (xs : List Val) : List Val → Option (List Val × Val)
  | [v] => (match view h v with
    | .lst ys => if xs.length + ys.length ≤ big then some (xs ++ ys, .non) else none
    | _ => none)
  | _ => none
def gPop (_ : PH) (xs : List Val) : List Val → Option (List Val × Val)
  | [] => (match xs.getLast? with
    | some v => some (xs.dropLast, v)
    | none => none)
  | _ => none
def gPopAt (_ : PH) (xs : List Val) : List Val → Option (List Val × Val)
  | [.int i] => if decide (0 ≤ i) && decide (i < 1000000) then (match xs[i.toNat]? with
    | some v => some (xs.eraseIdx i.toNat, v)
    | none => none) else none
  | _ => none
section
variable {T : Tab}
theorem append_W : MetW T rAppend gAppend := by
  intro H U m h a xs vs ys xv vv z Q hr lv ea rs hz0 rv e k
  unfold gAppend at e
  split at e
  · split at e
    · rename_i hz
      cases e
      obtain ⟨x, rfl, rx⟩ := one_reps rv
      refine ⟨a, xv, x, rfl, rfl, ea, ?_, k _ _ (rs.append (.cons rx .nil)) (by rw [List.length_append]; exact big_line hz) .non⟩
      rw [← rs.length]
      exact Nat.lt_of_lt_of_le hz (big_line (Nat.le_refl _))
    · cases e
  · cases e
theorem extend_W : MetW T rExtend gExtend := by
  intro H U m h a xs vs ys xv vv z Q hr lv ea rs hz0 rv e k
  unfold gExtend at e
  split at e
  · obtain ⟨x, rfl, rx⟩ := one_reps rv
    split at e
    · rename_i ws ew
      split at e
      · rename_i hz
        cases e
        obtain ⟨b, zs, rfl, eb, rz, _⟩ := view_lst hr rx ew
        refine ⟨a, b, xv, zs, rfl, rfl, ea, eb, ?_, k _ _ (rs.append rz) (by rw [List.length_append]; exact big_line hz) .non⟩
        rw [← rs.length, ← rz.length]
        exact big_line hz
      · cases e
    · cases e
  · cases e
theorem Reps.dropLast {H : Hp} {U : Addr → Prop} {m : List (Option Addr)} {vs : List Val} {xs : List V} (r : Reps T H U m vs xs) : Reps T H U m vs.dropLast xs.dropLast := by
  rw [List.dropLast_eq_take, List.dropLast_eq_take, r.length]
  exact r.take _
theorem pop_W : MetW T rPop gPop := by
  intro H U m h a xs vs ys xv vv z Q hr lv ea rs hz0 rv e k
  unfold gPop at e
  split at e
  · cases rv
    split at e
    · rename_i v ev
      cases e
      rw [List.getLast?_eq_getElem?] at ev
      obtain ⟨y, ey, ry⟩ := rs.get ev
      exact ⟨a, xv, y, rfl, rfl, ea, by rw [← rs.length]; exact ey, k _ _ rs.dropLast (by rw [List.length_dropLast]; omega) ry⟩
    · cases e
  · cases e
theorem popAt_W : MetW T rPopAt gPopAt := by
  intro H U m h a xs vs ys xv vv z Q hr lv ea rs hz0 rv e k
  unfold gPopAt at e
  split at e
  · rename_i i
    split at e
    · rename_i hc
      simp only [Bool.and_eq_true, decide_eq_true_eq] at hc
      split at e
      · rename_i v ev
        cases e
        obtain ⟨x, rfl, rx⟩ := one_reps rv
        cases rx
        obtain ⟨y, ey, ry⟩ := rs.get ev
        have hl := (List.getElem?_eq_some_iff.mp ey).1
        have es : seqIndex? i xv.length = some i.toNat := PySem.StrLaws.seqIndex_nonneg hc.1 (by omega)
        exact ⟨a, xv, i, i.toNat, y, rfl, rfl, ea, by omega, by omega, es, ey, k _ _ (rs.eraseIdx _) (Nat.le_trans (len_erase _ _) hz0) ry⟩
      · cases e
    · cases e
  · cases e
end
end SW

namespace SW
open PySem PySem.Spec PyProof.Rows L2

/-! ### targets -/
abbrev TGm := Val → Ev → SM Ev
abbrev TGsm := List Val → Ev → SM Ev
/-- but for the slots at vs the two are one -/
def SameBut (vs : List Nat) (σ σ' : L2.St) : Prop := σ'.length = σ.length ∧ ∀ j, j ∉ vs → σ'[j]? = σ[j]?
theorem SameBut.refl {vs : List Nat} {σ : L2.St} : SameBut vs σ σ := ⟨rfl, fun _ _ => rfl⟩
theorem SameBut.trans {vs ws : List Nat} {σ σ' σ2 : L2.St} (a : SameBut vs σ σ') (b : SameBut ws σ' σ2) : SameBut (vs ++ ws) σ σ2 :=
  ⟨b.1.trans a.1, fun j hj => (b.2 j fun z => hj (List.mem_append_right _ z)).trans (a.2 j fun z => hj (List.mem_append_left _ z))⟩
theorem SameBut.set {σ : L2.St} {i : Nat} {x : Option V} : SameBut [i] σ (σ.set i x) := ⟨by simp, fun j hj => by rw [List.getElem?_set_ne]; exact fun z => hj (by simp [z])⟩
theorem SameBut.mono {vs ws : List Nat} {σ σ' : L2.St} (a : SameBut vs σ σ') (h : ∀ i ∈ vs, i ∈ ws) : SameBut ws σ σ' := ⟨a.1, fun j hj => a.2 j fun z => hj (h j z)⟩
theorem wipe_in {σ : L2.St} {i : Nat} : ∀ {vs : List Nat}, i ∈ vs → (wipe σ vs)[i]? = if i < σ.length then some none else none
  | v :: vs, h => by
    unfold wipe
    by_cases hi : v = i
    · subst hi
      rw [List.getElem?_set, if_pos rfl, wipe_length]
    · rw [List.getElem?_set_ne hi]
      rcases List.mem_cons.mp h with z | z
      · exact absurd z.symm hi
      · exact wipe_in z
theorem wipe_same {vs : List Nat} {σ σ' : L2.St} (a : SameBut vs σ σ') : wipe σ' vs = wipe σ vs := by
  apply List.ext_getElem?
  intro i
  by_cases hi : i ∈ vs
  · rw [wipe_in hi, wipe_in hi, a.1]
  · rw [wipe_out hi, wipe_out hi, a.2 i hi]
def tG (T : Tab) (W : WC) (g : TGm) (vs : List Nat) : TG := fun x σ H Q => ∃ U m r h v, HR T H U m h ∧ ER T H U m r σ ∧ Rep T H U m v x ∧ Out T H U m W (g v r h) fun r' _ H' U' m' => ∀ σ', ER T H' U' m' r' σ' → SameBut vs σ σ' → Q σ' H'
def tGs (T : Tab) (W : WC) (g : TGsm) (vs : List Nat) : TGs := fun xs σ H Q => ∃ U m r h v, HR T H U m h ∧ ER T H U m r σ ∧ Reps T H U m v xs ∧ Out T H U m W (g v r h) fun r' _ H' U' m' => ∀ σ', ER T H' U' m' r' σ' → SameBut vs σ σ' → Q σ' H'
def CG (T : Tab) (X : Cx) (e : Expr) (g : TGm) (vs : List Nat) : Prop := XOk T X → ∀ W, Tk X W → PG X e (tG T W g vs)
def CGs (T : Tab) (X : Cx) (es : List Expr) (g : TGsm) (vs : List Nat) : Prop := XOk T X → ∀ W, Tk X W → PGs X es (tGs T W g vs)
theorem pgs_imp {X : Cx} {e : List Expr} {t t' : TGs} (p : PGs X e t) (h : ∀ v σ H Q, t' v σ H Q → t v σ H Q) : PGs X e t' := ⟨fun pins s σ H v u Q I r q => p.run pins s σ H v u Q I r (h v σ H Q q)⟩
def gSet (i : Nat) : TGm := fun v r h => .ok (r.set i (some v)) h
def gsNil : TGsm := fun vs r h => match vs with | [] => .ok r h | _ => .stuck
def gsCons (g : TGm) (gs : TGsm) : TGsm := fun vs r h => match vs with | v :: rest => (g v r h).bind fun r1 h1 => gs rest r1 h1 | [] => .stuck
def gUnp (n : Nat) (gs : TGsm) : TGm := fun v r h => match v with | .tup xs => if xs.length = n then gs xs r h else .stuck | _ => .stuck
section
variable {T : Tab} {X : Cx} {pos : Pos} {e : Expr} {es : List Expr} {g : TGm} {gs : TGsm} {vs ws : List Nat}
theorem cg_name (i : Nat) {x : Str} (hi : X.N[i]? = some x := by rfl) (hx : Loc X.env.scope x := by first | exact Or.inl rfl | exact Or.inr rfl) (hf : X.fn x = true ∨ X.env.scope.names.lookup x = some .local := by first | exact .inl rfl | exact .inr rfl) : CG T X (.Name x pos) (gSet i) [i] := fun ok W tk =>
  pg_imp (pg_name ok.nd hi hx hf) fun x σ H Q ⟨U, m, r, h, v, hr, er, rv, o⟩ => o H U m .refl hr _ (er.set rv) .set
theorem cgs_nil : CGs T X [] gsNil [] := fun ok W tk => pgs_imp pgs_nil fun xs σ H Q ⟨U, m, r, h, v, hr, er, rv, o⟩ => by
  cases rv with
  | nil => exact ⟨rfl, o H U m .refl hr _ er .refl⟩
  | cons _ _ => exact (show False from o).elim
theorem cgs_cons (h1 : CG T X e g vs) (h2 : CGs T X es gs ws) (hs : (assignEach (e :: es) X.env).map (·.2) = assign e X.env :: (assignEach es X.env).map (·.2) := by rfl) : CGs T X (e :: es) (gsCons g gs) (vs ++ ws) := fun ok W tk =>
  pgs_imp (pgs_cons (h1 ok W tk) (h2 ok W tk) hs) fun xs σ H Q ⟨U, m, r, h, v, hr, er, rv, o⟩ => by
    cases rv with
    | nil => exact (show False from o).elim
    | cons r1 r2 =>
      refine ⟨_, _, rfl, U, m, r, h, _, hr, er, r1, (Out.bind hr o).mono fun r' h' H' U' m' gr hr' o1 σ' er' sb => ?_⟩
      exact ⟨U', m', r', h', _, hr', er', hr.reps gr r2, o1.mono fun r2' h2' H2 U2 m2 g2 hr2 k σ2 er2 sb2 => k σ2 er2 (sb.trans sb2)⟩
theorem cg_tup {k n : Nat} (h : CGs T X es gs vs) (hn : (assignEach es X.env).length = n := by rfl) (hst : (assignEach es X.env).findIdx? (·.1) = none := by rfl) : CG T X (.Tuple es k pos) (gUnp n gs) vs := fun ok W tk =>
  pg_imp (pg_tup ok.calm (h ok W tk) hn hst) fun x σ H Q ⟨U, m, r, h, v, hr, er, rv, o⟩ => by
    unfold gUnp at o
    split at o
    · split at o
      · rename_i xs hl
        cases rv with
        | tup h0 h1 h2 => exact ⟨_, _, rfl, by rw [ok.k]; exact h1, by rw [← h2.length]; exact hl, U, m, r, h, _, hr, er, h2, o⟩
      · exact (show False from o).elim
    · exact (show False from o).elim
end

/-! ### statements -/
inductive Fl where
  | nx (r : Ev)
  | rt (v : Val)
  | bk (r : Ev)
  | ct (r : Ev)
abbrev Stm := Ev → SM Fl
/-- what is wanted behind a statement -/
def KF (T : Tab) (D : Ends) (f : Fl) (H' : Hp) (U' : Addr → Prop) (m' : List (Option Addr)) : Prop := match f with
  | .nx r => ∀ σ', ER T H' U' m' r σ' → D.nx σ' H'
  | .rt v => ∀ x, Rep T H' U' m' v x → D.rt x H'
  | .bk r => ∀ σ', ER T H' U' m' r σ' → D.bk σ' H'
  | .ct r => ∀ σ', ER T H' U' m' r σ' → D.ct σ' H'
def tS (T : Tab) (W : WC) (ms : Stm) : TS := fun D σ H => ∃ U m r h, HR T H U m h ∧ ER T H U m r σ ∧ Out T H U m W (ms r h) fun f _ H' U' m' => KF T D f H' U' m'
abbrev PO1 (X : Cx) : Prop := PassesOwn (model X.prog X.w) X.A X.env X.xe
def CS (T : Tab) (X : Cx) (st : Stmt) (ms : Stm) : Prop := XOk T X → PO1 X → ∀ W, Tk X W → PS X st (tS T W ms)
def CSs (T : Tab) (X : Cx) (st : List Stmt) (ms : Stm) : Prop := XOk T X → PO1 X → ∀ W, Tk X W → PSs X st (tS T W ms)
def sNil : Stm := fun r h => .ok (.nx r) h
def sSeq (a b : Stm) : Stm := fun r h => (a r h).bind fun f h1 => match f with
  | .nx r1 => b r1 h1
  | f => .ok f h1
def sExpr (e : Ex) : Stm := fun r h => (e r h).bind fun _ h1 => .ok (.nx r) h1
def sRet (e : Ex) : Stm := fun r h => (e r h).bind fun v h1 => .ok (.rt v) h1
def sRetN : Stm := fun _ h => .ok (.rt .non) h
def sIf (c : Ex) (a b : Stm) : Stm := fun r h => ((c r h).bind truthM).bind fun k h1 => if k then a r h1 else b r h1
def sAsg (e : Ex) (g : TGm) : Stm := fun r h => (e r h).bind fun v h1 => (g v r h1).bind fun r1 h2 => .ok (.nx r1) h2
def sPar (i j : Nat) (ms : List Ex) : Stm := fun r h => (eArgs ms r h).bind fun vs h1 => match vs with
  | [v, w] => .ok (.nx ((r.set i (some v)).set j (some w))) h1
  | _ => .stuck
def sPar3 (i j l : Nat) (ms : List Ex) : Stm := fun r h => (eArgs ms r h).bind fun vs h1 => match vs with
  | [u, v, w] => .ok (.nx (((r.set i (some u)).set j (some v)).set l (some w))) h1
  | _ => .stuck
def sAug (i : Nat) (g : PH → Val → Val → Option Val) (e : Ex) : Stm := fun r h => (eVar i r h).bind fun x h1 => (e r h1).bind fun y h2 => (lift (g h2 x y) h2).bind fun z h3 => .ok (.nx (r.set i (some z))) h3
def sBrk : Stm := fun r h => .ok (.bk r) h
def sCnt : Stm := fun r h => .ok (.ct r) h
section
variable {T : Tab} {X : Cx} {pos : Pos} {st : Stmt} {rest a b : List Stmt} {e c tg : Expr} {es : List Expr} {me mc : Ex} {ms : List Ex} {ma mb : Stm} {g : TGm} {vs : List Nat}
/-- an end of a run is an end wanted -/
theorem KF.ends {D D' : Ends} {f : Fl} {H : Hp} {U : Addr → Prop} {m : List (Option Addr)} (k : KF T D f H U m) (h1 : D.nx = D'.nx) (h2 : D.rt = D'.rt) (h3 : D.bk = D'.bk) (h4 : D.ct = D'.ct) : KF T D' f H U m := by
  cases f with
  | nx r => unfold KF at k ⊢; rw [← h1]; exact k
  | rt r => unfold KF at k ⊢; rw [← h2]; exact k
  | bk r => unfold KF at k ⊢; rw [← h3]; exact k
  | ct r => unfold KF at k ⊢; rw [← h4]; exact k
theorem css_nil : CSs T X [] sNil := fun ok po W tk => pss_imp pss_nil fun D σ H ⟨U, m, r, h, hr, er, o⟩ => o H U m .refl hr σ er
theorem css_cons (h1 : CS T X st ma) (h2 : CSs T X rest mb) : CSs T X (st :: rest) (sSeq ma mb) := fun ok po W tk => pss_imp (pss_cons (h1 ok po W tk) (h2 ok po W tk)) fun D σ H ⟨U, m, r, h, hr, er, o⟩ => by
  refine ⟨U, m, r, h, hr, er, (Out.bind hr o).mono fun f h' H' U' m' gr hr' o1 => ?_⟩
  cases f with
  | nx r1 => exact fun σ' er' => ⟨U', m', r1, h', hr', er', o1⟩
  | rt v => exact o1 H' U' m' .refl hr'
  | bk r1 => exact o1 H' U' m' .refl hr'
  | ct r1 => exact o1 H' U' m' .refl hr'
theorem css_one (h1 : CS T X st ma) : CSs T X [st] ma := fun ok po W tk => pss_one (h1 ok po W tk)
theorem cs_pass : CS T X (.Pass pos) sNil := fun ok po W tk => ps_imp ps_pass fun D σ H ⟨U, m, r, h, hr, er, o⟩ => o H U m .refl hr σ er
theorem cs_break : CS T X (.Break pos) sBrk := fun ok po W tk => ps_imp ps_break fun D σ H ⟨U, m, r, h, hr, er, o⟩ => o H U m .refl hr σ er
theorem cs_cont : CS T X (.Continue pos) sCnt := fun ok po W tk => ps_imp ps_continue fun D σ H ⟨U, m, r, h, hr, er, o⟩ => o H U m .refl hr σ er
theorem cs_expr (he : CE T X e me) (hs : swapsWith e none pos.line X.env = pure false := by rfl) : CS T X (.Expr e pos) (sExpr me) := fun ok po W tk => ps_imp (ps_expr (he ok W tk) hs) fun D σ H ⟨U, m, r, h, hr, er, o⟩ =>
  tE_then hr er o fun x H1 U1 m1 h1 v g1 hr1 er1 rx o1 => o1 H1 U1 m1 .refl hr1 σ er1
theorem cs_ret (he : CE T X e me) : CS T X (.Return (some e) pos) (sRet me) := fun ok po W tk => ps_imp (ps_ret (he ok W tk)) fun D σ H ⟨U, m, r, h, hr, er, o⟩ =>
  tE_then hr er o fun x H1 U1 m1 h1 v g1 hr1 er1 rx o1 => o1 H1 U1 m1 .refl hr1 x rx
theorem cs_retN : CS T X (.Return none pos) sRetN := fun ok po W tk => ps_imp ps_retN fun D σ H ⟨U, m, r, h, hr, er, o⟩ => o H U m .refl hr .non .non
theorem cs_if (hc : CT T X c mc) (ha : CSs T X a ma) (hb : CSs T X b mb) : CS T X (.If c a b pos) (sIf mc ma mb) := fun ok po W tk => ps_imp (ps_if (hc ok W tk) (ha ok po W tk) (hb ok po W tk)) fun D σ H ⟨U, m, r, h, hr, er, o⟩ => by
  refine tT_then hr er o fun k H1 U1 m1 h1 g1 hr1 er1 o1 => ?_
  cases k with
  | true => rw [if_pos rfl]; exact ⟨U1, m1, r, h1, hr1, er1, o1⟩
  | false => rw [if_neg Bool.false_ne_true]; exact ⟨U1, m1, r, h1, hr1, er1, o1⟩
theorem cs_asg (he : CE T X e me) (hg : CG T X tg g vs) (hs : swapsWithSole [tg] e pos.line X.env = pure false := by rfl) (hw : swappedStores [tg] e X.env = pure none := by rfl)
    (h1 : (assignEach [tg] X.env).map (·.2) = [assign tg X.env] := by rfl) : CS T X (.Assign [tg] e pos) (sAsg me g) := fun ok po W tk => ps_imp (ps_asg (he ok W tk) (hg ok W tk) hs hw h1) fun D σ H ⟨U, m, r, h, hr, er, o⟩ => by
  refine tE_then hr er o fun x H1 U1 m1 h1 v g1 hr1 er1 rx o1 => ?_
  exact ⟨U1, m1, r, h1, v, hr1, er1, rx, (Out.bind hr1 o1).mono fun r' h' H' U' m' g' hr' o2 σ' er' _ => o2 H' U' m' .refl hr' σ' er'⟩
theorem cs_set (i : Nat) {x : Str} {p : Pos} (he : CE T X e me) (hs : swapsWith e (some (.Name x p)) pos.line X.env = pure false := by rfl) (hi : X.N[i]? = some x := by rfl) (hx : Loc X.env.scope x := by first | exact Or.inl rfl | exact Or.inr rfl) (hf : X.fn x = true ∨ X.env.scope.names.lookup x = some .local := by first | exact .inl rfl | exact .inr rfl) : CS T X (.Assign [.Name x p] e pos) (sAsg me (gSet i)) := fun ok po W tk =>
  ps_imp (ps_set ok.nd hi hx (he ok W tk) hs hf) fun D σ H ⟨U, m, r, h, hr, er, o⟩ =>
    tE_then hr er o fun y H1 U1 m1 h1 v g1 hr1 er1 ry o1 => o1 H1 U1 m1 .refl hr1 _ (er1.set ry)
theorem cs_par (i j : Nat) {x y : Str} {a b : Expr} {px py pt : Pos} {kt k2 pt2} (ha : CA T X [a, b] (eArgs ms)) (hi : X.N[i]? = some x := by rfl) (hj : X.N[j]? = some y := by rfl) (hij : i ≠ j := by decide)
    (hx : X.env.scope.names.lookup x = some .local := by rfl) (hy : X.env.scope.names.lookup y = some .local := by rfl)
    (hw : swappedStores [.Tuple [.Name x px, .Name y py] kt pt] (.Tuple [a, b] k2 pt2) X.env = pure (some [x, y]) := by rfl)
    (hs : swapsWithSole [.Tuple [.Name x px, .Name y py] kt pt] (.Tuple [a, b] k2 pt2) pos.line X.env = pure false := by rfl) :
    CS T X (.Assign [.Tuple [.Name x px, .Name y py] kt pt] (.Tuple [a, b] k2 pt2) pos) (sPar i j ms) := fun ok po W tk => ps_imp (ps_par ok.calm ok.nd hi hj hij hx hy (ha ok W tk) hw hs) fun D σ H ⟨U, m, r, h, hr, er, o⟩ => by
  refine tA_then hr er o fun xs H1 U1 m1 h1 vs e1 g1 hr1 er1 rx o1 => ?_
  split at o1
  · cases rx with
    | cons r1 r2 =>
      cases r2 with
      | cons r2 r3 =>
        cases r3
        exact ⟨_, _, rfl, o1 H1 U1 m1 .refl hr1 _ ((er1.set r1).set r2)⟩
  · exact (show False from o1).elim
theorem cs_par3 (i j l : Nat) {x y z : Str} {a b c : Expr} {px py pz pt : Pos} {kt k2 pt2} (ha : CA T X [a, b, c] (eArgs ms)) (hi : X.N[i]? = some x := by rfl) (hj : X.N[j]? = some y := by rfl) (hl : X.N[l]? = some z := by rfl) (hij : i ≠ j := by decide) (hil : i ≠ l := by decide) (hjl : j ≠ l := by decide)
    (hx : X.env.scope.names.lookup x = some .local := by rfl) (hy : X.env.scope.names.lookup y = some .local := by rfl) (hz : X.env.scope.names.lookup z = some .local := by rfl)
    (hw : swappedStores [.Tuple [.Name x px, .Name y py, .Name z pz] kt pt] (.Tuple [a, b, c] k2 pt2) X.env = pure (some [x, y, z]) := by rfl)
    (hs : swapsWithSole [.Tuple [.Name x px, .Name y py, .Name z pz] kt pt] (.Tuple [a, b, c] k2 pt2) pos.line X.env = pure false := by rfl) :
    CS T X (.Assign [.Tuple [.Name x px, .Name y py, .Name z pz] kt pt] (.Tuple [a, b, c] k2 pt2) pos) (sPar3 i j l ms) := fun ok po W tk => ps_imp (ps_par3 ok.calm ok.nd hi hj hl hij hil hjl hx hy hz (ha ok W tk) hw hs) fun D σ H ⟨U, m, r, h, hr, er, o⟩ => by
  refine tA_then hr er o fun xs H1 U1 m1 h1 vs e1 g1 hr1 er1 rx o1 => ?_
  split at o1
  · cases rx with
    | cons r1 r2 =>
      cases r2 with
      | cons r2 r3 =>
        cases r3 with
        | cons r3 r4 =>
          cases r4
          exact ⟨_, _, _, rfl, o1 H1 U1 m1 .refl hr1 _ (((er1.set r1).set r2).set r3)⟩
  · exact (show False from o1).elim
theorem cs_aug (i : Nat) {x : Str} {op : Operator} {gg : PH → Val → Val → Option Val} {p : Pos} (he : CE T X e me) (ho : XOk T X → OpS T X (inplaceOp op) gg) (hi : X.N[i]? = some x := by rfl) (hx : Loc X.env.scope x := by first | exact Or.inl rfl | exact Or.inr rfl) (hf : X.fn x = true ∨ X.env.scope.names.lookup x = some .local := by first | exact .inl rfl | exact .inr rfl) :
    CS T X (.AugAssign (.Name x p) op e pos) (sAug i gg me) := fun ok po W tk => ps_imp (ps_aug ok.nd hi hx (he ok W tk) (OpS.r (@ho ok)) hf) fun D σ H ⟨U, m, r, h, hr, er, o⟩ => by
  obtain ⟨v, ev⟩ : ∃ v, r.getD i none = some v := by
    cases q : r.getD i none with
    | none => simp only [sAug, eVar, q] at o; exact (show False from o).elim
    | some v => exact ⟨v, rfl⟩
  have e1 : r[i]? = some (some v) := by
    rw [List.getD_eq_getElem?_getD] at ev
    cases q : r[i]? with
    | none => rw [q] at ev; cases ev
    | some z => rw [q] at ev; exact congrArg some ev
  obtain ⟨xv, e2, rx⟩ := er.val i v e1
  refine ⟨xv, e2, ?_⟩
  have o2 : Out T H U m W ((me r h).bind fun y h2 => (lift (gg h2 v y) h2).bind fun z h3 => Res.ok (Fl.nx (r.set i (some z))) h3) fun f _ H' U' m' => KF T D f H' U' m' := by
    have := o
    simp only [sAug, eVar, ev] at this
    exact this
  refine tE_then hr er o2 fun y H1 U1 m1 h1 w g1 hr1 er1 ry o1 => ?_
  cases q : gg h1 v w with
  | none => rw [q] at o1; exact (show False from o1).elim
  | some z =>
    rw [q] at o1
    refine ⟨U1, m1, h1, v, w, z, hr1, hr.rep g1 rx, ry, q, fun zv H' ex rz => ?_⟩
    exact o1 H' U1 m1 (Gr.of_ext ex) (hr1.ext ex) _ ((hr1.env (Gr.of_ext ex) er1).set rz)
end

/-! ### what is walked -/
structure Src where
  n : Nat
  get : PH → Nat → Option Val
  fin : PH → Bool
def Src.of (xs : List Val) : Src := ⟨xs.length, fun _ i => xs[i]?, fun _ => true⟩
/-- J goes as src says, from (H0, U0, m0) on -/
structure WalkS (T : Tab) (J : It) (src : Src) (H0 : Hp) (U0 : Addr → Prop) (m0 : List (Option Addr)) : Prop where
  size : src.n ≤ sizeLine
  go : ∀ {H : Hp} {U : Addr → Prop} {m : List (Option Addr)} {h : PH} {i : Nat} {v : Val}, Gw H0 U0 m0 H U m → HR T H U m h → i < src.n → src.get h i = some v → J.go i H ∧ ∀ x H', J.yld i H x H' → Ext H H' ∧ Rep T H' U m v x
  stop : ∀ {H : Hp} {U : Addr → Prop} {m : List (Option Addr)} {h : PH}, Gw H0 U0 m0 H U m → HR T H U m h → src.fin h = true → J.stop src.n H
def tI (T : Tab) (W : WC) (ms : Ev → SM Src) : TI := fun σ H R => ∃ U m r h, HR T H U m h ∧ ER T H U m r σ ∧ Out T H U m W (ms r h) fun src _ H' U' m' => ∀ J, WalkS T J src H' U' m' → R J H'
def CI (T : Tab) (X : Cx) (tg e : Expr) (ms : Ev → SM Src) : Prop := XOk T X → ∀ W, Tk X W → PI X tg e (tI T W ms)

/-! ### for, while -/
def forLoop (src : Src) (g : TGm) (b : Stm) : Nat → Nat → Ev → SM Fl
  | 0, _, r => fun h => if src.fin h then .ok (.nx r) h else .stuck
  | k + 1, i, r => fun h => match src.get h i with
    | none => .stuck
    | some v => (g v r h).bind fun r1 h1 => (b r1 h1).bind fun f h2 => match f with
      | .nx r2 => forLoop src g b k (i + 1) r2 h2
      | .ct r2 => forLoop src g b k (i + 1) r2 h2
      | .bk r2 => .ok (.nx r2) h2
      | .rt v => .ok (.rt v) h2
def sFor (ms : Ev → SM Src) (g : TGm) (b : Stm) : Stm := fun r h => (ms r h).bind fun src h1 => forLoop src g b src.n 0 r h1
def whLoop (c : Ex) (b : Stm) : Nat → Ev → SM Fl
  | 0, _ => fun _ => .stuck
  | k + 1, r => fun h => ((c r h).bind truthM).bind fun t h1 => if t then (b r h1).bind fun f h2 => (match f with
      | .nx r2 => whLoop c b k r2 h2
      | .ct r2 => whLoop c b k r2 h2
      | .bk r2 => .ok (.nx r2) h2
      | .rt v => .ok (.rt v) h2) else .ok (.nx r) h1
/-- the most turns of a while -/
abbrev turns : Nat := 1000000
def sWh (c : Ex) (b : Stm) : Stm := fun r h => whLoop c b turns r h
section
variable {T : Tab} {X : Cx} {pos : Pos} {body : List Stmt} {c tg iter : Expr} {mc : Ex} {ms : Ev → SM Src} {mb : Stm} {g : TGm} {vs : List Nat}
theorem for_run {W : WC} {D : Ends} {J : It} {src : Src} {H0 : Hp} {U0 : Addr → Prop} {m0 : List (Option Addr)} (w : WalkS T J src H0 U0 m0) {σ : L2.St} {U : Addr → Prop} {m : List (Option Addr)} {r : Ev} {h : PH} (hr : HR T H0 U0 m0 h) (er : ER T H0 U0 m0 r σ)
    (o : Out T H0 U0 m0 W (forLoop src g mb src.n 0 r h) fun f _ H' U' m' => KF T D f H' U' m') :
    ∃ Wv : Nat → Nat → L2.St → Hp → Prop, (∃ k, Wv 0 k σ H0) ∧ ∀ i k σ H, Wv i k σ H →
      (J.stop i H ∧ D.nx σ H) ∨ (J.go i H ∧ ∃ N : L2.St → Hp → Prop, (∀ σ' H', N σ' H' → ∃ k', k' < k ∧ Wv (i + 1) k' σ' H') ∧ ∀ x H', J.yld i H x H' → tG T W g vs x σ H' fun σ2 H2 => tS T W mb { D with nx := N, ct := N, bk := D.nx } σ2 H2) := by
  refine ⟨fun i k σ H => i + k = src.n ∧ ∃ U m r h, HR T H U m h ∧ ER T H U m r σ ∧ Gw H0 U0 m0 H U m ∧ Out T H U m W (forLoop src g mb k i r h) fun f _ H' U' m' => KF T D f H' U' m', ⟨src.n, by omega, U0, m0, r, h, hr, er, .refl, o⟩, ?_⟩
  rintro i k σ H ⟨hik, U, m, r, h, hr, er, gw, o⟩
  cases k with
  | zero =>
    unfold forLoop at o
    split at o
    · rename_i hf
      have : i = src.n := by omega
      subst this
      exact .inl ⟨w.stop gw hr hf, o H U m .refl hr σ er⟩
    · exact (show False from o).elim
  | succ k =>
    unfold forLoop at o
    split at o
    · exact (show False from o).elim
    · rename_i v ev
      obtain ⟨w1, w2⟩ := w.go gw hr (by omega) ev
      refine .inr ⟨w1, fun σ H => i + 1 + k = src.n ∧ ∃ U m r h, HR T H U m h ∧ ER T H U m r σ ∧ Gw H0 U0 m0 H U m ∧ Out T H U m W (forLoop src g mb k (i + 1) r h) fun f _ H' U' m' => KF T D f H' U' m', fun σ' H' hN => ⟨k, by omega, hN⟩, fun x H' y => ?_⟩
      obtain ⟨ex, rx⟩ := w2 x H' y
      have hr' := hr.ext ex
      have g1 : Gr H U m H' U m := Gr.of_ext ex
      have o1 := Out.step hr hr' g1 o
      refine ⟨U, m, r, h, v, hr', hr.env g1 er, rx, (Out.bind hr' o1).mono fun r1 h1 H1 U1 m1 g2 hr1 o2 σ1 er1 _ => ?_⟩
      refine ⟨U1, m1, r1, h1, hr1, er1, (Out.bind hr1 o2).mono fun f h2 H2 U2 m2 g3 hr2 o3 => ?_⟩
      have gw2 : Gw H0 U0 m0 H2 U2 m2 := gw.trans (((hr.trans hr' g1 g2).trans g3).gw hr.sub)
      cases f with
      | nx r2 => exact fun σ2 er2 => ⟨by omega, U2, m2, r2, h2, hr2, er2, gw2, o3⟩
      | ct r2 => exact fun σ2 er2 => ⟨by omega, U2, m2, r2, h2, hr2, er2, gw2, o3⟩
      | bk r2 => exact o3 H2 U2 m2 .refl hr2
      | rt v2 => exact o3 H2 U2 m2 .refl hr2
theorem cs_for (hi : CI T X tg iter ms) (hg : CG T X tg g vs) (hb : CSs T X body mb) (hs : ∀ x, foldedSetIterable iter X.env x = pure x := by intro _; rfl) : CS T X (.For tg iter body [] pos) (sFor ms g mb) := fun ok po W tk =>
  ps_imp (ps_for po ok.calm (hi ok W tk) (hg ok W tk) (hb ok po W tk) hs) fun D σ H ⟨U, m, r, h, hr, er, o⟩ =>
    ⟨U, m, r, h, hr, er, (Out.bind hr o).mono fun src h1 H1 U1 m1 g1 hr1 o1 J w => for_run (U := U1) (m := m1) w hr1 (hr.env g1 er) o1⟩
theorem cs_while (hc : CT T X c mc) (hb : CSs T X body mb) : CS T X (.While c body [] pos) (sWh mc mb) := fun ok po W tk =>
  ps_imp (ps_while po (hc ok W tk) (hb ok po W tk)) fun D σ H ⟨U, m, r, h, hr, er, o⟩ => by
    refine ⟨fun k σ H => ∃ U m r h, HR T H U m h ∧ ER T H U m r σ ∧ Out T H U m W (whLoop mc mb k r h) fun f _ H' U' m' => KF T D f H' U' m', ⟨turns, U, m, r, h, hr, er, o⟩, ?_⟩
    rintro k σ H ⟨U, m, r, h, hr, er, o⟩
    cases k with
    | zero => exact (show False from o).elim
    | succ k =>
      unfold whLoop at o
      refine tT_then hr er o fun t H1 U1 m1 h1 g1 hr1 er1 o1 => ?_
      cases t with
      | false => rw [if_neg Bool.false_ne_true]; exact o1 H1 U1 m1 .refl hr1 σ er1
      | true =>
        rw [if_pos rfl]
        rw [if_pos rfl] at o1
        refine ⟨fun σ H => ∃ U m r h, HR T H U m h ∧ ER T H U m r σ ∧ Out T H U m W (whLoop mc mb k r h) fun f _ H' U' m' => KF T D f H' U' m', fun σ' H' hN => ⟨k, by omega, hN⟩, ?_⟩
        refine ⟨U1, m1, r, h1, hr1, er1, (Out.bind hr1 o1).mono fun f h2 H2 U2 m2 g3 hr2 o3 => ?_⟩
        cases f with
        | nx r2 => exact fun σ2 er2 => ⟨U2, m2, r2, h2, hr2, er2, o3⟩
        | ct r2 => exact fun σ2 er2 => ⟨U2, m2, r2, h2, hr2, er2, o3⟩
        | bk r2 => exact o3 H2 U2 m2 .refl hr2
        | rt v2 => exact o3 H2 U2 m2 .refl hr2
end
end SW

namespace SW
open PySem PySem.Spec PyProof.Rows L2

/-! ### comprehensions -/
def wipeE (r : Ev) : List Nat → Ev
  | [] => r
  | v :: vs => (wipeE r vs).set v none
theorem ER.wipes {T : Tab} {H : Hp} {U : Addr → Prop} {m : List (Option Addr)} {r : Ev} {σ : L2.St} (e : ER T H U m r σ) : ∀ vs : List Nat, ER T H U m (wipeE r vs) (L2.wipe σ vs)
  | [] => e
  | v :: vs => (ER.wipes e vs).wipe v
def eTest (mt : Option Ex) : Ev → SM Bool := fun r h => match mt with
  | none => .ok true h
  | some e => (e r h).bind truthM
def compLoop (src : Src) (g : TGm) (mt : Option Ex) (body : Ev → SM (List Val)) (own : List Nat) : Nat → Nat → Ev → SM (List Val)
  | 0, _, _ => fun h => if src.fin h then .ok [] h else .stuck
  | k + 1, i, r => fun h => match src.get h i with
    | none => .stuck
    | some v => (g v (wipeE r own) h).noexc.bind fun r1 h1 => (eTest mt r1 h1).noexc.bind fun b h2 => if b then
        (body r1 h2).noexc.bind fun ys h3 => (compLoop src g mt body own k (i + 1) r h3).bind fun zs h4 => .ok (ys ++ zs) h4
      else compLoop src g mt body own k (i + 1) r h2
def eOne (e : Ex) : Ev → SM (List Val) := fun r h => (e r h).bind fun v h1 => .ok [v] h1
def eComp (ms : Ev → SM Src) (g : TGm) (mt : Option Ex) (elt : Ex) (own : List Nat) : Ev → SM (List Val) := fun r h => (ms r h).bind fun src h1 => compLoop src g mt (eOne elt) own src.n 0 r h1
def eIn (ms1 : Ev → SM Src) (g1 : TGm) (mt1 : Option Ex) (elt : Ex) (own1 : List Nat) : Ev → SM (List Val) := fun r h => (ms1 r h).bind fun src h1 => compLoop src g1 mt1 (eOne elt) own1 src.n 0 r h1
def eComp2 (ms : Ev → SM Src) (g : TGm) (mt : Option Ex) (ms1 : Ev → SM Src) (g1 : TGm) (mt1 : Option Ex) (elt : Ex) (own own1 : List Nat) : Ev → SM (List Val) := fun r h => (ms r h).bind fun src h1 =>
  (compLoop src g mt (eIn ms1 g1 mt1 elt own1) own src.n 0 r h1).bind fun vs h2 => if vs.length ≤ big then .ok vs h2 else .stuck
theorem noexc_ok {α β : Type} {r : Res α} {f : α → SM β} {b : β} {h : PH} (e : r.noexc.bind f = .ok b h) : ∃ a h1, r = .ok a h1 ∧ f a h1 = .ok b h := by
  cases r with
  | ok a h1 => exact ⟨a, h1, rfl, e⟩
  | exc _ _ => cases e
  | stuck => cases e
theorem bind_ok {α β : Type} {r : Res α} {f : α → SM β} {b : β} {h : PH} (e : r.bind f = .ok b h) : ∃ a h1, r = .ok a h1 ∧ f a h1 = .ok b h := by
  cases r with
  | ok a h1 => exact ⟨a, h1, rfl, e⟩
  | exc _ _ => cases e
  | stuck => cases e
theorem compLoop_noexc {src : Src} {g : TGm} {mt : Option Ex} {body : Ev → SM (List Val)} {own : List Nat} : ∀ (k i : Nat) (r : Ev) (h : PH) (e : Val) (h' : PH), compLoop src g mt body own k i r h ≠ .exc e h'
  | 0, i, r, h, e, h', z => by
    unfold compLoop at z
    split at z <;> cases z
  | k + 1, i, r, h, e, h', z => by
    unfold compLoop at z
    split at z
    · cases z
    · rename_i v _
      cases q1 : g v (wipeE r own) h with
      | ok r1 h1 =>
        rw [q1] at z
        simp only [Res.noexc, Res.bind] at z
        cases q2 : eTest mt r1 h1 with
        | ok b h2 =>
          rw [q2] at z
          simp only at z
          cases b with
          | true =>
            simp only [if_true] at z
            cases q3 : body r1 h2 with
            | ok ys h3 =>
              rw [q3] at z
              simp only at z
              cases q4 : compLoop src g mt body own k (i + 1) r h3 with
              | ok zs h4 => rw [q4] at z; cases z
              | exc e4 h4 => exact compLoop_noexc k _ _ _ _ _ q4
              | stuck => rw [q4] at z; cases z
            | exc _ _ => rw [q3] at z; cases z
            | stuck => rw [q3] at z; cases z
          | false =>
            simp only [Bool.false_eq_true, if_false] at z
            exact compLoop_noexc k _ _ _ _ _ z
        | exc _ _ => rw [q2] at z; cases z
        | stuck => rw [q2] at z; cases z
      | exc _ _ => rw [q1] at z; cases z
      | stuck => rw [q1] at z; cases z
theorem eOne_len {e : Ex} {r : Ev} {h h' : PH} {vs : List Val} (q : eOne e r h = .ok vs h') : vs.length = 1 := by
  obtain ⟨v, h1, _, e2⟩ := bind_ok q
  cases e2; rfl
theorem compLoop_len {src : Src} {g : TGm} {mt : Option Ex} {e : Ex} {own : List Nat} : ∀ (k i : Nat) (r : Ev) (h h' : PH) (vs : List Val), compLoop src g mt (eOne e) own k i r h = .ok vs h' → vs.length ≤ k
  | 0, i, r, h, h', vs, z => by
    unfold compLoop at z
    split at z
    · cases z; simp
    · cases z
  | k + 1, i, r, h, h', vs, z => by
    unfold compLoop at z
    split at z
    · cases z
    · obtain ⟨r1, h1, _, z1⟩ := noexc_ok z
      obtain ⟨b, h2, _, z2⟩ := noexc_ok z1
      cases b with
      | true =>
        simp only [if_true] at z2
        obtain ⟨ys, h3, e3, z3⟩ := noexc_ok z2
        obtain ⟨zs, h4, e4, z4⟩ := bind_ok z3
        cases z4
        rw [List.length_append, eOne_len e3]
        have := compLoop_len _ _ _ _ _ _ e4
        omega
      | false =>
        simp only [Bool.false_eq_true, if_false] at z2
        have := compLoop_len _ _ _ _ _ _ z2
        omega

/-- Gr, but the list at D may have changed -/
structure Gd (D : Addr) (H : Hp) (U : Addr → Prop) (m : List (Option Addr)) (H' : Hp) (U' : Addr → Prop) (m' : List (Option Addr)) : Prop where
  keep : ∀ a o, ¬ Lv m a → a ≠ D → H a = some o → H' a = some o
  new : ∀ a, U' a → U a ∨ H a = none
  ext : Mg H m m'
  there : ∀ a, H a ≠ none → H' a ≠ none
  up : ∀ a, U a → H a ≠ none → ¬ Lv m a → U' a
section
variable {T : Tab} {D : Addr} {H H' H2 : Hp} {U U' U2 : Addr → Prop} {m m' m2 : List (Option Addr)} {h h' : PH}
theorem Gr.gd (g : Gr H U m H' U' m') : Gd D H U m H' U' m' := ⟨fun a o h1 _ h3 => g.keep a o h1 h3, g.new, g.ext, g.there, g.up⟩
theorem Gd.trans (g : Gd D H U m H' U' m') (k : Gd D H' U' m' H2 U2 m2) : Gd D H U m H2 U2 m2 := by
  have fresh : ∀ {a}, H' a = none → H a = none := fun {a} h => by
    cases e : H a with
    | none => rfl
    | some o => exact absurd h (g.there a (by rw [e]; exact fun z => nomatch z))
  have live : ∀ {a} {o : HO}, ¬ Lv m a → H a = some o → ¬ Lv m' a := fun {a o} ha h ⟨l, e⟩ => by
    by_cases hl : l < m.length
    · exact ha ⟨l, g.ext.old l a hl e⟩
    · rw [g.ext.new l a (by omega) e] at h; cases h
  refine ⟨fun a o ha hd h => k.keep a o (live ha h) hd (g.keep a o ha hd h), fun a h => ?_, ⟨Nat.le_trans g.ext.len k.ext.len, fun l a hl e => g.ext.old l a hl (k.ext.old l a (Nat.lt_of_lt_of_le hl g.ext.len) e), fun l a hl e => ?_⟩, fun a h => k.there a (g.there a h), fun a h1 h2 h3 => k.up a (g.up a h1 h2 h3) (g.there a h2) ?_⟩
  · rcases k.new a h with z | z
    · exact g.new a z
    · exact .inr (fresh z)
  · by_cases h2 : l < m'.length
    · exact g.ext.new l a hl (k.ext.old l a h2 e)
    · exact fresh (k.ext.new l a (by omega) e)
  · cases e : H a with
    | none => exact absurd e h2
    | some o => exact live h3 e
theorem Gd.write {o : HO} : Gd D H U m (upd H D o) U m := ⟨fun a u _ hd e => by rw [upd_ne hd]; exact e, fun _ h => .inl h, .refl, upd_there, fun _ h _ _ => h⟩
theorem Gd.gw (g : Gd D H U m H' U' m') (hs : ∀ a, Lv m a → U a) (hd : U D) : Gw H U m H' U' m' := ⟨fun a o hu e => g.keep a o (fun z => hu (hs a z)) (fun z => hu (z ▸ hd)) e, g.new, g.ext.len, g.ext.old⟩
/-- D is new: none of H's objects -/
theorem Gd.gr (hD : H D = none) (mu : MutU H U) (g : Gd D (upd H D (.lst [])) (addU U D) m H' U' m') : Gr H U m H' U' m' := by
  refine ⟨fun a o ha e => g.keep a o ha (ne_of_none e hD) (by rw [upd_ne (ne_of_none e hD)]; exact e), fun a h => ?_, ⟨g.ext.len, g.ext.old, fun l a hl e => ?_⟩, fun a h => g.there a (upd_there a h), fun a h1 h2 h3 => g.up a (.inl h1) (upd_there a h2) h3⟩
  · rcases g.new a h with (z | z) | z
    · exact .inl z
    · exact .inr (z ▸ hD)
    · by_cases e : a = D
      · exact .inr (e ▸ hD)
      · rw [upd_ne e] at z; exact .inr z
  · have z := g.ext.new l a hl e
    by_cases e2 : a = D
    · exact e2 ▸ hD
    · rw [upd_ne e2] at z; exact z
/-- the state within a comprehension: the new list is at D, and holds what accv stands for -/
structure InC (T : Tab) (D : Addr) (H : Hp) (U : Addr → Prop) (m : List (Option Addr)) (h : PH) (accv : List Val) : Prop where
  hr : HR T H U m h
  nl : ¬ Lv m D
  ud : U D
  at_ : ∃ acc, H D = some (.lst acc) ∧ Reps T H U m accv acc
theorem InC.step {accv : List Val} (c : InC T D H U m h accv) (g : Gr H U m H' U' m') (hr : HR T H' U' m' h') : InC T D H' U' m' h' accv := by
  obtain ⟨acc, e, r⟩ := c.at_
  exact ⟨hr, g.live c.nl e, g.up _ c.ud (by rw [e]; exact fun z => nomatch z) c.nl, acc, g.keep _ _ c.nl e, c.hr.reps g r⟩
theorem InC.push {accv : List Val} {y : Val} {yv : V} (c : InC T D H U m h accv) (ry : Rep T H U m y yv) : ∃ acc, H D = some (.lst acc) ∧ acc.length = accv.length ∧ InC T D (upd H D (.lst (acc ++ [yv]))) U m h (accv ++ [y]) := by
  obtain ⟨acc, e, r⟩ := c.at_
  have gw : Gw H U m (upd H D (.lst (acc ++ [yv]))) U m := Gd.gw Gd.write c.hr.sub c.ud
  refine ⟨acc, e, r.length.symm, ⟨c.hr.len, c.hr.nd, c.hr.sub, fun a ha => ?_, fun l o q => ?_⟩, c.nl, c.ud, _, upd_same, (Reps.gr gw c.hr.us r).append (.cons (Rep.gr gw c.hr.us ry) .nil)⟩
  · by_cases q : a = D
    · subst q; rw [upd_same]; exact ⟨_, rfl, True.intro⟩
    · rw [upd_ne q]; exact c.hr.us a ha
  · rcases c.hr.obj l o q with z | ⟨a, e1, e2⟩
    · exact .inl z
    · exact .inr ⟨a, e1, e2.gw c.hr.us gw (upd_ne fun z => c.nl ⟨l, z ▸ e1⟩)⟩
end

/-- no exception is wished for -/
abbrev W0 : WC := fun _ _ _ => False
def tY (T : Tab) (W : WC) (mt : Option Ex) : TT := fun σ H Q => match mt with
  | none => Q true H
  | some e => tT T W e σ H Q
def CTs (T : Tab) (X : Cx) (ifs : List Expr) (mt : Option Ex) : Prop := XOk T X → ∀ W, Tk X W → PTs X ifs (tY T W mt)
theorem cts_nil {T : Tab} {X : Cx} : CTs T X [] none := fun _ _ _ => ⟨fun pins s σ H Q I q => pts_nil.run pins s σ H Q I q⟩
theorem cts_one {T : Tab} {X : Cx} {c : Expr} {e : Ex} (h : CT T X c e) : CTs T X [c] (some e) := fun ok W tk => ⟨fun pins s σ H Q I q => (pts_one (h ok W tk)).run pins s σ H Q I q⟩
theorem tY_then {T : Tab} {W : WC} {mt : Option Ex} {b : Bool} {σ : L2.St} {H : Hp} {U : Addr → Prop} {m : List (Option Addr)} {r : Ev} {h h1 : PH} (hr : HR T H U m h) (er : ER T H U m r σ) (e : eTest mt r h = .ok b h1)
    {Q : Bool → Hp → Prop} (k : ∀ H1 U1 m1, Gr H U m H1 U1 m1 → HR T H1 U1 m1 h1 → ER T H1 U1 m1 r σ → Q b H1) : tY T W mt σ H Q := by
  cases mt with
  | none => cases e; exact k H U m .refl hr er
  | some c =>
    refine ⟨U, m, r, h, hr, er, ?_⟩
    have e : (c r h).bind truthM = .ok b h1 := e
    rw [e]
    exact fun H1 U1 m1 g hr1 => k H1 U1 m1 g hr1 (hr.env g er)

section
variable {T : Tab}
/-- one level of a comprehension's loop; tb: what the turn's body asks -/
theorem comp_walk {J : It} {src : Src} {g : TGm} {vs own : List Nat} {mt : Option Ex} {body : Ev → SM (List Val)} {tb : L2.St → Hp → (Hp → Prop) → Prop} {D : Addr} {H0 Hs : Hp} {U0 Us : Addr → Prop} {m0 ms : List (Option Addr)} {hs hF : PH} {accv ys : List Val} {r : Ev} {σ : L2.St} {Fin : Hp → Prop}
    (w : WalkS T J src H0 U0 m0) (hv : ∀ i ∈ vs, i ∈ own) (gw : Gw H0 U0 m0 Hs Us ms) (c : InC T D Hs Us ms hs accv) (er : ER T Hs Us ms r σ) (e : compLoop src g mt body own src.n 0 r hs = .ok ys hF) (hz : accv.length + ys.length ≤ sizeLine)
    (hb : ∀ {σ2 : L2.St} {H3 : Hp} {U : Addr → Prop} {m : List (Option Addr)} {r2 : Ev} {h h' : PH} {accv ys : List Val} {Nx : Hp → Prop}, InC T D H3 U m h accv → ER T H3 U m r2 σ2 → body r2 h = .ok ys h' → accv.length + ys.length ≤ sizeLine →
      (∀ H' U' m', Gd D H3 U m H' U' m' → InC T D H' U' m' h' (accv ++ ys) → Nx H') → tb σ2 H3 Nx)
    (fin : ∀ H U m, Gd D Hs Us ms H U m → InC T D H U m hF (accv ++ ys) → Fin H) :
    ∃ Wv : Nat → Nat → Hp → Prop, (∃ k, Wv 0 k Hs) ∧ ∀ i k H, Wv i k H → (J.stop i H ∧ Fin H) ∨ (J.go i H ∧ ∃ Nx : Hp → Prop, (∀ H', Nx H' → ∃ k', k' < k ∧ Wv (i + 1) k' H') ∧ ∀ x H', J.yld i H x H' →
      tG T W0 g vs x (wipe σ own) H' fun σ2 H2 => wipe σ2 own = wipe σ own ∧ tY T W0 mt σ2 H2 fun b H3 => if b = true then tb σ2 H3 Nx else Nx H3) := by
  refine ⟨fun i k H => i + k = src.n ∧ ∃ U m h accv' zs, InC T D H U m h accv' ∧ ER T H U m r σ ∧ Gd D Hs Us ms H U m ∧ compLoop src g mt body own k i r h = .ok zs hF ∧ accv' ++ zs = accv ++ ys, ⟨src.n, by omega, Us, ms, hs, accv, ys, c, er, Gr.refl.gd, e, rfl⟩, ?_⟩
  rintro i k H ⟨hik, U, m, h, accv', zs, c', er', gd, e', ea⟩
  have gw' : Gw H0 U0 m0 H U m := gw.trans (gd.gw c.hr.sub c.ud)
  cases k with
  | zero =>
    unfold compLoop at e'
    split at e'
    · rename_i hf
      cases e'
      have : i = src.n := by omega
      subst this
      refine .inl ⟨w.stop gw' c'.hr hf, fin H U m gd ?_⟩
      rw [← ea, List.append_nil]
      exact c'
    · cases e'
  | succ k =>
    unfold compLoop at e'
    split at e'
    · cases e'
    · rename_i v ev
      obtain ⟨w1, w2⟩ := w.go gw' c'.hr (by omega) ev
      obtain ⟨r1, h1, e1, e'⟩ := noexc_ok e'
      obtain ⟨b, h2, e2, e'⟩ := noexc_ok e'
      refine .inr ⟨w1, fun H => i + 1 + k = src.n ∧ ∃ U m h accv' zs, InC T D H U m h accv' ∧ ER T H U m r σ ∧ Gd D Hs Us ms H U m ∧ compLoop src g mt body own k (i + 1) r h = .ok zs hF ∧ accv' ++ zs = accv ++ ys, fun H' q => ⟨k, by omega, q⟩, fun x H' y => ?_⟩
      obtain ⟨ex, rx⟩ := w2 x H' y
      have g1 : Gr H U m H' U m := Gr.of_ext ex
      have cc := c'.step g1 (c'.hr.ext ex)
      have er1 := c'.hr.env g1 er'
      refine ⟨U, m, wipeE r own, h, v, cc.hr, er1.wipes own, rx, ?_⟩
      rw [e1]
      intro H1 U1 m1 g2 hr1 σ2 er2 sb
      refine ⟨?_, ?_⟩
      · have a1 : wipe σ2 own = wipe (wipe σ own) own := wipe_same (sb.mono hv)
        have a2 : wipe (wipe σ own) own = wipe σ own := (wipe_same (vs := own) (σ := σ) (σ' := wipe σ own) ⟨wipe_length _ _, fun j hj => wipe_out hj⟩)
        rw [a1, a2]
      · have c1 := cc.step g2 hr1
        refine tY_then hr1 er2 e2 fun H2 U2 m2 g3 hr2 er3 => ?_
        have c2 := c1.step g3 hr2
        have gAll : Gr H U m H2 U2 m2 := (g1.trans g2).trans g3
        have erO := c'.hr.env gAll er'
        cases b with
        | false =>
          rw [if_neg Bool.false_ne_true]
          rw [if_neg Bool.false_ne_true] at e'
          exact ⟨by omega, U2, m2, h2, accv', zs, c2, erO, gd.trans gAll.gd, e', ea⟩
        | true =>
          rw [if_pos rfl]
          rw [if_pos rfl] at e'
          obtain ⟨y1, h3, e3, e'⟩ := noexc_ok e'
          obtain ⟨z1, h4, e4, e'⟩ := bind_ok e'
          cases e'
          have hl : accv'.length + (y1.length + z1.length) = accv.length + ys.length := by
            have := congrArg List.length ea
            simpa using this
          refine hb c2 er3 e3 (by omega) fun H' U' m' g4 c4 => ?_
          have gw4 := g4.gw c2.hr.sub c2.ud
          refine ⟨by omega, U', m', h3, accv' ++ y1, z1, c4, ?_, (gd.trans gAll.gd).trans g4, e4, by rw [List.append_assoc]; exact ea⟩
          exact ⟨erO.len, fun i v q => let ⟨x, q1, q2⟩ := erO.val i v q; ⟨x, q1, Rep.gr gw4 c2.hr.us q2⟩⟩
/-- the element itself -/
theorem body_one {D : Addr} {elt : Ex} {σ2 : L2.St} {H3 : Hp} {U : Addr → Prop} {m : List (Option Addr)} {r2 : Ev} {h h' : PH} {accv ys : List Val} {Nx : Hp → Prop} (c : InC T D H3 U m h accv) (er : ER T H3 U m r2 σ2) (e : eOne elt r2 h = .ok ys h') (hz : accv.length + ys.length ≤ sizeLine)
    (k : ∀ H' U' m', Gd D H3 U m H' U' m' → InC T D H' U' m' h' (accv ++ ys) → Nx H') : tE T W0 elt σ2 H3 fun y H4 => ∃ acc, H4 D = some (.lst acc) ∧ acc.length < sizeLine ∧ Nx (upd H4 D (.lst (acc ++ [y]))) := by
  obtain ⟨v, h1, e1, e2⟩ := bind_ok e
  cases e2
  refine ⟨U, m, r2, h, c.hr, er, ?_⟩
  rw [e1]
  intro H4 U4 m4 g hr4 x rx
  obtain ⟨acc, q1, q2, q3⟩ := (c.step g hr4).push rx
  exact ⟨acc, q1, by rw [q2]; simp at hz; omega, k _ _ _ (g.gd.trans Gd.write) q3⟩
/-- the new list, at the end -/
theorem InC.nl' {D : Addr} {H H1 H' : Hp} {U U1 U' : Addr → Prop} {m m1 m' : List (Option Addr)} {h1 h' : PH} {vs : List Val} (g : Gr H U m H1 U1 m1) (hr1 : HR T H1 U1 m1 h1) (hD : H1 D = none) (gd : Gd D (upd H1 D (.lst [])) (addU U1 D) m1 H' U' m') (c : InC T D H' U' m' h' vs) (hz : vs.length ≤ sizeLine) :
    ∃ U2 xs, NL T H U m h' vs H' U2 m' D xs := by
  obtain ⟨xs, e, r⟩ := c.at_
  have eU : addU (fun a => U' a ∧ a ≠ D) D = U' := funext fun a => propext ⟨fun z => z.elim (·.1) fun z => z ▸ c.ud, fun z => by
    by_cases q : a = D
    · exact .inr q
    · exact .inl ⟨z, q⟩⟩
  have g0 : Gr H U m H' U' m' := g.trans (Gd.gr hD hr1.us gd)
  refine ⟨fun a => U' a ∧ a ≠ D, xs, fun z => z.2 rfl, c.nl, g.fresh hD, ⟨g0.keep, fun a z => g0.new a z.1, g0.ext, g0.there, fun a h1 h2 h3 => ⟨g0.up a h1 h2 h3, fun z => h2 (z ▸ g.fresh hD)⟩⟩, by rw [eU]; exact c.hr, e, by rw [eU]; exact r, hz⟩
theorem InC.start {D : Addr} {H : Hp} {U : Addr → Prop} {m : List (Option Addr)} {h : PH} (hr : HR T H U m h) (hD : H D = none) : InC T D (upd H D (.lst [])) (addU U D) m h [] :=
  ⟨hr.addU hD True.intro, hr.notlv hD, .inr rfl, [], upd_same, .nil⟩
end
section
variable {T : Tab} {X : Cx} {elt tg iter tg1 iter1 : Expr} {ifs ifs1 : List Expr} {scope : Scope} {pos : Pos} {ms ms1 : Ev → SM Src} {g g1 : TGm} {mt mt1 : Option Ex} {me : Ex} {vs vs1 own1 : List Nat}
theorem comp_run {W : WC} {own : List Nat} {σ : L2.St} {H : Hp} {Q : VK} (hv : ∀ i ∈ vs, i ∈ own) (q : tN T W (eComp ms g mt me own) σ H Q) : tLc (tI T W ms) (tG T W0 g vs) (tY T W0 mt) (tE T W0 me) own σ H Q := by
  obtain ⟨U, m, r, h, hr, er, o⟩ := q
  refine ⟨U, m, r, h, hr, er, ?_⟩
  unfold eComp at o
  cases e0 : ms r h with
  | stuck => rw [e0] at o; exact o
  | exc _ _ => rw [e0] at o; exact o
  | ok src h1 =>
    rw [e0] at o
    intro H1 U1 m1 g0 hr1 J w D hD
    cases e1 : compLoop src g mt (eOne me) own src.n 0 r h1 with
    | stuck => simp only [Res.bind, e1] at o; exact o.elim
    | exc e2 h2 => exact absurd e1 (compLoop_noexc _ _ _ _ _ _)
    | ok ys hF =>
      simp only [Res.bind, e1] at o
      have hl : ys.length ≤ sizeLine := Nat.le_trans (compLoop_len _ _ _ _ _ _ e1) w.size
      have gw : Gw H1 U1 m1 (upd H1 D (.lst [])) (addU U1 D) m1 := (growU hD).gw hr1.sub
      refine comp_walk (tb := fun σ2 H3 Nx => tE T W0 me σ2 H3 fun y H4 => ∃ acc, H4 D = some (.lst acc) ∧ acc.length < sizeLine ∧ Nx (upd H4 D (.lst (acc ++ [y])))) w hv gw (InC.start hr1 hD) ((hr.env (g0.trans (growU hD)) er)) e1 (by simpa using hl) (fun c er e hz k => body_one c er e hz k) fun H' U' m' gd c => ?_
      obtain ⟨U2, xs, n⟩ := InC.nl' g0 hr1 hD gd c (by simpa using hl)
      exact o H' U2 m' D xs n
theorem cn_comp (own : List (Str × Nat)) (hi : CI T X tg iter ms) (hg : ∀ (s : Shared) (H : Hp) (C : Addr) (cl : List (Str × Addr)) (fp : List Addr), CG T (X.blk s H scope (compEnvC scope cl C X.env) fp) tg g vs)
    (ht : ∀ (s : Shared) (H : Hp) (C : Addr) (cl : List (Str × Addr)) (fp : List Addr), CTs T (X.blk s H scope (compEnvC scope cl C X.env) fp) ifs mt)
    (he : ∀ (s : Shared) (H : Hp) (C : Addr) (cl : List (Str × Addr)) (fp : List Addr), CE T (X.blk s H scope (compEnvC scope cl C X.env) fp) elt me)
    (ok : BlkOk X.N X.env.scope scope own := by exact blkOk_by (by rfl)) (hv : ∀ i ∈ vs, i ∈ own.map (·.2) := by decide)
    (hs : ∀ x, foldedSetIterable iter X.env x = pure x := by intro _; rfl) : CN T X (.ListComp elt [⟨tg, iter, ifs, 0⟩] scope pos) (eComp ms g mt me (own.map (·.2))) := fun xo W tk =>
  have bo : ∀ (s : Shared) (H : Hp) (C : Addr) (cl : List (Str × Addr)) (fp : List Addr), XOk T (X.blk s H scope (compEnvC scope cl C X.env) fp) := fun _ _ _ _ _ => ⟨xo.k, xo.calm, xo.nd, xo.un, xo.hd⟩
  pe_imp (pe_lc xo.calm xo.nd (hi xo W tk) ok (fun s H C cl fp => hg s H C cl fp (bo ..) W0 (Tk.none _)) (fun s H C cl fp => ht s H C cl fp (bo ..) W0 (Tk.none _)) (fun s H C cl fp => he s H C cl fp (bo ..) W0 (Tk.none _)) hs) fun σ H Q q => comp_run hv q
theorem comp2_run {W : WC} {own : List Nat} {σ : L2.St} {H : Hp} {Q : VK} (hv : ∀ i ∈ vs, i ∈ own) (hv1 : ∀ i ∈ vs1, i ∈ own1) (q : tN T W (eComp2 ms g mt ms1 g1 mt1 me own own1) σ H Q) : tLc2 (tI T W ms) (tG T W0 g vs) (tY T W0 mt) (tI T W0 ms1) (tG T W0 g1 vs1) (tY T W0 mt1) (tE T W0 me) own own1 σ H Q := by
  obtain ⟨U, m, r, h, hr, er, o⟩ := q
  refine ⟨U, m, r, h, hr, er, ?_⟩
  unfold eComp2 at o
  cases e0 : ms r h with
  | stuck => rw [e0] at o; exact o
  | exc _ _ => rw [e0] at o; exact o
  | ok src h1 =>
    rw [e0] at o
    intro H1 U1 m1 g0 hr1 J w D hD
    cases e1 : compLoop src g mt (eIn ms1 g1 mt1 me own1) own src.n 0 r h1 with
    | stuck => simp only [Res.bind, e1] at o; exact o.elim
    | exc e2 h2 => exact absurd e1 (compLoop_noexc _ _ _ _ _ _)
    | ok ys hF =>
      simp only [Res.bind, e1] at o
      by_cases hl0 : ys.length ≤ big
      · rw [if_pos hl0] at o
        have hl : ys.length ≤ sizeLine := big_line hl0
        have gw : Gw H1 U1 m1 (upd H1 D (.lst [])) (addU U1 D) m1 := (growU hD).gw hr1.sub
        refine comp_walk (tb := fun σ2 H3 Nx => tI T W0 ms1 σ2 H3 fun J1 H4 => ∃ W1 : Nat → Nat → Hp → Prop, (∃ m, W1 0 m H4) ∧ ∀ j k H, W1 j k H →
          (J1.stop j H ∧ Nx H) ∨ (J1.go j H ∧ ∃ Nx1 : Hp → Prop, (∀ H', Nx1 H' → ∃ k', k' < k ∧ W1 (j + 1) k' H') ∧ ∀ x H', J1.yld j H x H' → tG T W0 g1 vs1 x (wipe σ2 own1) H' fun σ3 H5 => wipe σ3 own1 = wipe σ2 own1 ∧ tY T W0 mt1 σ3 H5 fun b H6 =>
            if b = true then tE T W0 me σ3 H6 fun y H7 => ∃ acc, H7 D = some (.lst acc) ∧ acc.length < sizeLine ∧ Nx1 (upd H7 D (.lst (acc ++ [y]))) else Nx1 H6)) w hv gw (InC.start hr1 hD) ((hr.env (g0.trans (growU hD)) er)) e1 (by simpa using hl) ?_ fun H' U' m' gd c => ?_
        · intro σ2 H3 U3 m3 r2 h3 h3' accv ys3 Nx c er3 e hz k
          obtain ⟨src1, h4, e4, e5⟩ := bind_ok e
          refine ⟨U3, m3, r2, h3, c.hr, er3, ?_⟩
          rw [e4]
          intro H4 U4 m4 g4 hr4 J1 w1
          refine comp_walk (tb := fun σ3 H6 Nx1 => tE T W0 me σ3 H6 fun y H7 => ∃ acc, H7 D = some (.lst acc) ∧ acc.length < sizeLine ∧ Nx1 (upd H7 D (.lst (acc ++ [y])))) w1 hv1 .refl (c.step g4 hr4) (c.hr.env g4 er3) e5 hz (fun c er e hz k => body_one c er e hz k) fun H' U' m' gd c' => ?_
          exact k H' U' m' (g4.gd.trans gd) c'
        · obtain ⟨U2, xs, n⟩ := InC.nl' g0 hr1 hD gd c (by simpa using hl)
          exact o H' U2 m' D xs n
      · rw [if_neg hl0] at o; exact o.elim
theorem cn_comp2 (own : List (Str × Nat)) (own1 : List Nat) (hi : CI T X tg iter ms) (hg : ∀ (s : Shared) (H : Hp) (C : Addr) (cl : List (Str × Addr)) (fp : List Addr), CG T (X.blk s H scope (compEnvC scope cl C X.env) fp) tg g vs)
    (ht : ∀ (s : Shared) (H : Hp) (C : Addr) (cl : List (Str × Addr)) (fp : List Addr), CTs T (X.blk s H scope (compEnvC scope cl C X.env) fp) ifs mt)
    (hi1 : ∀ (s : Shared) (H : Hp) (C : Addr) (cl : List (Str × Addr)) (fp : List Addr), CI T (X.blk s H scope (compEnvC scope cl C X.env) fp) tg1 iter1 ms1)
    (hg1 : ∀ (s : Shared) (H : Hp) (C : Addr) (cl : List (Str × Addr)) (fp : List Addr), CG T (X.blk s H scope (compEnvC scope cl C X.env) fp) tg1 g1 vs1)
    (ht1 : ∀ (s : Shared) (H : Hp) (C : Addr) (cl : List (Str × Addr)) (fp : List Addr), CTs T (X.blk s H scope (compEnvC scope cl C X.env) fp) ifs1 mt1)
    (he : ∀ (s : Shared) (H : Hp) (C : Addr) (cl : List (Str × Addr)) (fp : List Addr), CE T (X.blk s H scope (compEnvC scope cl C X.env) fp) elt me)
    (ok : BlkOk X.N X.env.scope scope own := by exact blkOk_by (by rfl)) (hv : ∀ i ∈ vs, i ∈ own.map (·.2) := by decide) (hv1 : ∀ i ∈ vs1, i ∈ own1 := by decide) (hv2 : ∀ i ∈ own1, i ∈ own.map (·.2) := by decide)
    (hs : ∀ x, foldedSetIterable iter X.env x = pure x := by intro _; rfl) (hs1 : ∀ env x, foldedSetIterable iter1 env x = pure x := by intro _ _; rfl) :
    CN T X (.ListComp elt [⟨tg, iter, ifs, 0⟩, ⟨tg1, iter1, ifs1, 0⟩] scope pos) (eComp2 ms g mt ms1 g1 mt1 me (own.map (·.2)) own1) := fun xo W tk =>
  have bo : ∀ (s : Shared) (H : Hp) (C : Addr) (cl : List (Str × Addr)) (fp : List Addr), XOk T (X.blk s H scope (compEnvC scope cl C X.env) fp) := fun _ _ _ _ _ => ⟨xo.k, xo.calm, xo.nd, xo.un, xo.hd⟩
  pe_imp (pe_lc2 xo.calm xo.nd (hi xo W tk) ok hv2 (fun s H C cl fp => hg s H C cl fp (bo ..) W0 (Tk.none _)) (fun s H C cl fp => ht s H C cl fp (bo ..) W0 (Tk.none _)) (fun s H C cl fp => hi1 s H C cl fp (bo ..) W0 (Tk.none _)) (fun s H C cl fp => hg1 s H C cl fp (bo ..) W0 (Tk.none _)) (fun s H C cl fp => ht1 s H C cl fp (bo ..) W0 (Tk.none _)) (fun s H C cl fp => he s H C cl fp (bo ..) W0 (Tk.none _)) hs hs1) fun σ H Q q => comp2_run hv hv1 q
end
end SW

namespace SW
open PySem PySem.Spec PyProof.Rows L2

/-! ### sequences as they stand -/
def seqAt (v : Val) (h : PH) : Option (List Val) := match v with
  | .tup xs => some xs
  | .lst xs => some xs
  | .ins 0 xs => some xs
  | .ref l => (match h[l]? with | some (.lst xs) => some xs | _ => none)
  | _ => none
def Val.isTup : Val → Bool
  | .tup _ => true
  | _ => false
section
variable {T : Tab} {H : Hp} {U : Addr → Prop} {m : List (Option Addr)} {h : PH} {v : Val} {x : V} {vs : List Val}
theorem seq_rep (hr : HR T H U m h) (r : Rep T H U m v x) (e : seqAt v h = some vs) : ∃ a xs, x = .ref a ∧ Reps T H U m vs xs ∧ vs.length ≤ sizeLine ∧ (if v.isTup = true then SqT T.K H a xs else SqL T.K H a xs) := by
  cases v with
  | tup ys =>
    cases e
    cases r with
    | tup h0 h1 h2 => exact ⟨_, _, rfl, h2, h0, h1⟩
  | lst ys =>
    cases e
    cases r with
    | lst h0 h1 h2 h3 => exact ⟨_, _, rfl, h3, h0, .of h1⟩
  | ins c ys =>
    cases c with
    | zero =>
      cases e
      cases r with
      | scr h0 h1 h4 => exact ⟨_, _, rfl, h4, h0, h1.imp (·.1) id⟩
      | ins h0 _ _ _ _ => exact absurd rfl h0
    | succ c => cases e
  | ref l =>
    simp only [seqAt] at e
    split at e
    · rename_i ys ey
      cases e
      cases r with
      | ref hl er =>
        rcases hr.obj l _ ey with ⟨_, e0⟩ | ⟨b, e1, xs, ea, rs, hz⟩
        · cases e0
        · exact ⟨b, xs, er b e1, rs, hz, .of ea⟩
    · cases e
  | _ => cases e
end
/-- what is walked, as it stands at each turn -/
def liveSrc (v : Val) (n : Nat) (f : Nat → List Val → Option Val) : Src := ⟨n, fun h i => (seqAt v h).bind (f i), fun h => match seqAt v h with | some ys => decide (ys.length ≤ n) | none => false⟩
def srcSeq (v : Val) : SM Src := fun h => match seqAt v h with
  | some xs => .ok (liveSrc v xs.length fun i ys => ys[i]?) h
  | none => .stuck
def srcEnum (v : Val) : SM Src := fun h => match seqAt v h with
  | some xs => if v.isTup = true then .stuck else .ok (liveSrc v xs.length fun i ys => (ys[i]?).map fun y => .tup [.int i, y]) h
  | none => .stuck
def revSrc (v : Val) (n : Nat) : Src := ⟨n, fun h i => (seqAt v h).bind fun ys => if i < n then ys[n - 1 - i]? else none, fun h => true⟩
def srcRev (v : Val) : SM Src := fun h => match seqAt v h with
  | some xs => .ok (revSrc v xs.length) h
  | none => .stuck
def zipSrc (v w : Val) (n : Nat) : Src := ⟨n, fun h i => match seqAt v h, seqAt w h with
    | some xs, some ys => (match xs[i]?, ys[i]? with | some x, some y => some (.tup [x, y]) | _, _ => none)
    | _, _ => none, fun h => match seqAt v h, seqAt w h with
    | some xs', some ys' => decide (xs'.length ≤ n) || decide (ys'.length ≤ n)
    | _, _ => false⟩
def srcZip (v w : Val) : SM Src := fun h => match seqAt v h, seqAt w h with
  | some xs, some ys => if v.isTup = w.isTup then .ok (zipSrc v w (min xs.length ys.length)) h else .stuck
  | _, _ => .stuck
/-- small enough for a range -/
abbrev sml (i : Int) : Bool := decide (-(2 ^ 62) ≤ i) && decide (i < 2 ^ 62)
def srcRng (lo c : Int) (n : Nat) : Src := ⟨n, fun _ i => some (.int (lo + (i : Nat) * c)), fun _ => true⟩
def srcUp (lo : Int) (n : Nat) : Src := ⟨n, fun _ i => some (.int (lo + (i : Nat))), fun _ => true⟩
def srcR (vs : List Val) : SM Src := fun h => match vs with
  | [.int j] => if sml j && decide (j ≤ 1000000) then .ok (srcUp 0 j.toNat) h else .stuck
  | [.int i, .int j] => if sml i && sml j && decide (j - i ≤ 1000000) then .ok (srcUp i (j - i).toNat) h else .stuck
  | [.int i, .int j, .int (-1)] => if sml i && sml j && decide (i - j ≤ 1000000) then .ok (srcRng i (-1) (i - j).toNat) h else .stuck
  | _ => .stuck
def sSeq1 (k : Val → SM Src) (me : Ex) : Ev → SM Src := fun r h => (me r h).bind k
def sRng (ms : List Ex) : Ev → SM Src := fun r h => (eArgs ms r h).bind srcR
def sZip (ms : List Ex) : Ev → SM Src := fun r h => (eArgs ms r h).bind fun vs h1 => match vs with | [v, w] => srcZip v w h1 | _ => .stuck
section
variable {T : Tab} {H H' : Hp} {U U' : Addr → Prop} {m m' : List (Option Addr)} {h h' : PH} {v w : Val} {x : V} {vs : List Val} {xs : List V} {a b : Addr}
/-- the sequence v, later -/
theorem later (hr : HR T H U m h) (r : Rep T H U m v (.ref a)) (g : Gw H U m H' U' m') (hr' : HR T H' U' m' h') {ys : List Val} (e : seqAt v h' = some ys) : ∃ zs, Reps T H' U' m' ys zs ∧ ys.length ≤ sizeLine ∧ (if v.isTup = true then SqT T.K H' a zs else SqL T.K H' a zs) := by
  obtain ⟨b, zs, q1, q2, q3, q4⟩ := seq_rep hr' (Rep.gr g hr.us r) e
  cases q1
  exact ⟨zs, q2, q3, q4⟩
theorem some_bind {α β : Type} {o : Option α} {f : α → Option β} {b : β} (e : o.bind f = some b) : ∃ a, o = some a ∧ f a = some b := by
  cases o with
  | none => cases e
  | some a => exact ⟨a, rfl, e⟩
theorem walk_tup (hr : HR T H U m h) (r : Rep T H U m v (.ref a)) (hv : v.isTup = true) {n : Nat} (hn : n ≤ sizeLine) : WalkS T (Itt T.K a) (liveSrc v n fun i ys => ys[i]?) H U m where
  size := hn
  go := by
    intro H' U' m' h' i u g hr' hi e
    obtain ⟨ys, e1, e2⟩ := some_bind e
    obtain ⟨zs, q1, q2, q3⟩ := later hr r g hr' e1
    rw [if_pos hv] at q3
    obtain ⟨z, ez, rz⟩ := q1.get e2
    exact ⟨⟨zs, z, q3, ez⟩, fun x H2 ⟨eH, k⟩ => by
      subst eH
      obtain rfl := Option.some.inj ((k zs q3).symm.trans ez)
      exact ⟨Ext.rfl', rz⟩⟩
  stop := by
    intro H' U' m' h' g hr' e
    simp only [liveSrc] at e
    split at e
    · rename_i ys e1
      obtain ⟨zs, q1, q2, q3⟩ := later hr r g hr' e1
      rw [if_pos hv] at q3
      exact ⟨zs, q3, by rw [← q1.length]; exact of_decide_eq_true e⟩
    · cases e
theorem walk_lst (hr : HR T H U m h) (r : Rep T H U m v (.ref a)) (hv : v.isTup = false) {n : Nat} (hn : n ≤ sizeLine) : WalkS T (Itl T.K a) (liveSrc v n fun i ys => ys[i]?) H U m where
  size := hn
  go := by
    intro H' U' m' h' i u g hr' hi e
    obtain ⟨ys, e1, e2⟩ := some_bind e
    obtain ⟨zs, q1, q2, q3⟩ := later hr r g hr' e1
    rw [if_neg (by rw [hv]; exact Bool.false_ne_true)] at q3
    obtain ⟨z, ez, rz⟩ := q1.get e2
    exact ⟨⟨zs, z, q3, ez⟩, fun x H2 ⟨eH, k⟩ => by
      subst eH
      obtain rfl := Option.some.inj ((k zs q3).symm.trans ez)
      exact ⟨Ext.rfl', rz⟩⟩
  stop := by
    intro H' U' m' h' g hr' e
    simp only [liveSrc] at e
    split at e
    · rename_i ys e1
      obtain ⟨zs, q1, q2, q3⟩ := later hr r g hr' e1
      rw [if_neg (by rw [hv]; exact Bool.false_ne_true)] at q3
      exact ⟨zs, q3, by rw [← q1.length]; exact of_decide_eq_true e⟩
    · cases e
theorem pair_size : (2 : Nat) ≤ sizeLine := by rw [sizeLine_eq]; omega
theorem walk_enum (hr : HR T H U m h) (r : Rep T H U m v (.ref a)) (hv : v.isTup = false) {n : Nat} (hn : n ≤ sizeLine) : WalkS T (Ite T.K a) (liveSrc v n fun i ys => (ys[i]?).map fun y => .tup [.int i, y]) H U m where
  size := hn
  go := by
    intro H' U' m' h' i u g hr' hi e
    obtain ⟨ys, e1, e2⟩ := some_bind e
    obtain ⟨zs, q1, q2, q3⟩ := later hr r g hr' e1
    rw [if_neg (by rw [hv]; exact Bool.false_ne_true)] at q3
    dsimp only at e2
    cases e3 : ys[i]? with
    | none => rw [e3] at e2; cases e2
    | some y =>
      rw [e3] at e2; cases e2
      obtain ⟨z, ez, rz⟩ := q1.get e3
      exact ⟨⟨zs, z, q3, ez⟩, fun x H2 ⟨p, z', ex, hp, eH, k⟩ => by
        subst eH ex
        obtain rfl := Option.some.inj ((k zs q3).symm.trans ez)
        exact ⟨ext_upd hp, rep_newtup hr' hp (.cons (.int _) (.cons rz .nil)) pair_size⟩⟩
  stop := by
    intro H' U' m' h' g hr' e
    simp only [liveSrc] at e
    split at e
    · rename_i ys e1
      obtain ⟨zs, q1, q2, q3⟩ := later hr r g hr' e1
      rw [if_neg (by rw [hv]; exact Bool.false_ne_true)] at q3
      exact ⟨zs, q3, by rw [← q1.length]; exact of_decide_eq_true e⟩
    · cases e
theorem walk_zipT (hr : HR T H U m h) (r : Rep T H U m v (.ref a)) (r2 : Rep T H U m w (.ref b)) (hv : v.isTup = true) (hw : w.isTup = true) {n : Nat} (hn : n ≤ sizeLine) : WalkS T (RZ.ItzT T.K a b) (zipSrc v w n) H U m where
  size := hn
  go := by
    intro H' U' m' h' i u g hr' hi e
    unfold zipSrc at e
    dsimp only at e
    split at e
    · rename_i xs' ys' ex' ey'
      obtain ⟨xz, a1, a2, a3⟩ := later hr r g hr' ex'
      obtain ⟨yz, b1, b2, b3⟩ := later hr r2 g hr' ey'
      rw [hv, if_pos rfl] at a3
      rw [hw, if_pos rfl] at b3
      split at e
      · rename_i x0 y0 e1 e2
        cases e
        obtain ⟨z1, ez1, rz1⟩ := a1.get e1
        obtain ⟨z2, ez2, rz2⟩ := b1.get e2
        exact ⟨⟨xz, yz, z1, z2, a3, b3, ez1, ez2⟩, fun x H2 ⟨p, u1, u2, ex, hp, eH, k1, k2⟩ => by
          subst eH ex
          obtain rfl := Option.some.inj ((k1 xz a3).symm.trans ez1)
          obtain rfl := Option.some.inj ((k2 yz b3).symm.trans ez2)
          exact ⟨ext_upd hp, rep_newtup hr' hp (.cons rz1 (.cons rz2 .nil)) pair_size⟩⟩
      · cases e
    · cases e
  stop := by
    intro H' U' m' h' g hr' e
    simp only [zipSrc] at e
    split at e
    · rename_i xs' ys' ex' ey'
      obtain ⟨xz, a1, a2, a3⟩ := later hr r g hr' ex'
      obtain ⟨yz, b1, b2, b3⟩ := later hr r2 g hr' ey'
      rw [hv, if_pos rfl] at a3
      rw [hw, if_pos rfl] at b3
      simp only [Bool.or_eq_true, decide_eq_true_eq] at e
      exact ⟨xz, yz, a3, b3, by rw [← a1.length, ← b1.length]; exact e⟩
    · cases e
theorem walk_zipL (hr : HR T H U m h) (r : Rep T H U m v (.ref a)) (r2 : Rep T H U m w (.ref b)) (hv : v.isTup = false) (hw : w.isTup = false) {n : Nat} (hn : n ≤ sizeLine) : WalkS T (Itz T.K a b) (zipSrc v w n) H U m where
  size := hn
  go := by
    intro H' U' m' h' i u g hr' hi e
    unfold zipSrc at e
    dsimp only at e
    split at e
    · rename_i xs' ys' ex' ey'
      obtain ⟨xz, a1, a2, a3⟩ := later hr r g hr' ex'
      obtain ⟨yz, b1, b2, b3⟩ := later hr r2 g hr' ey'
      rw [hv, if_neg Bool.false_ne_true] at a3
      rw [hw, if_neg Bool.false_ne_true] at b3
      split at e
      · rename_i x0 y0 e1 e2
        cases e
        obtain ⟨z1, ez1, rz1⟩ := a1.get e1
        obtain ⟨z2, ez2, rz2⟩ := b1.get e2
        exact ⟨⟨xz, yz, z1, z2, a3, b3, ez1, ez2⟩, fun x H2 ⟨p, u1, u2, ex, hp, eH, k1, k2⟩ => by
          subst eH ex
          obtain rfl := Option.some.inj ((k1 xz a3).symm.trans ez1)
          obtain rfl := Option.some.inj ((k2 yz b3).symm.trans ez2)
          exact ⟨ext_upd hp, rep_newtup hr' hp (.cons rz1 (.cons rz2 .nil)) pair_size⟩⟩
      · cases e
    · cases e
  stop := by
    intro H' U' m' h' g hr' e
    simp only [zipSrc] at e
    split at e
    · rename_i xs' ys' ex' ey'
      obtain ⟨xz, a1, a2, a3⟩ := later hr r g hr' ex'
      obtain ⟨yz, b1, b2, b3⟩ := later hr r2 g hr' ey'
      rw [hv, if_neg Bool.false_ne_true] at a3
      rw [hw, if_neg Bool.false_ne_true] at b3
      simp only [Bool.or_eq_true, decide_eq_true_eq] at e
      exact ⟨xz, yz, a3, b3, by rw [← a1.length, ← b1.length]; exact e⟩
    · cases e
theorem walk_revT (hr : HR T H U m h) (r : Rep T H U m v (.ref a)) (hv : v.isTup = true) {n : Nat} (hn : n ≤ sizeLine) : WalkS T (RT.ItvT T.K a n) (revSrc v n) H U m where
  size := hn
  go := by
    intro H' U' m' h' i u g hr' hi e
    unfold revSrc at e hi
    dsimp only at e hi
    obtain ⟨zs0, e1, e2⟩ := some_bind e
    rw [if_pos hi] at e2
    obtain ⟨zs, p1, p2, p3⟩ := later hr r g hr' e1
    rw [hv, if_pos rfl] at p3
    obtain ⟨z, ez, rz⟩ := p1.get e2
    exact ⟨⟨hi, zs, z, p3, ez⟩, fun x H2 ⟨eH, k⟩ => by
      subst eH
      obtain rfl := Option.some.inj ((k zs p3).symm.trans ez)
      exact ⟨Ext.rfl', rz⟩⟩
  stop := fun g hr' e => Nat.le_refl _
theorem walk_revL (hr : HR T H U m h) (r : Rep T H U m v (.ref a)) (hv : v.isTup = false) {n : Nat} (hn : n ≤ sizeLine) : WalkS T (Itv T.K a n) (revSrc v n) H U m where
  size := hn
  go := by
    intro H' U' m' h' i u g hr' hi e
    unfold revSrc at e hi
    dsimp only at e hi
    obtain ⟨zs0, e1, e2⟩ := some_bind e
    rw [if_pos hi] at e2
    obtain ⟨zs, p1, p2, p3⟩ := later hr r g hr' e1
    rw [hv, if_neg Bool.false_ne_true] at p3
    obtain ⟨z, ez, rz⟩ := p1.get e2
    exact ⟨⟨hi, zs, z, p3, ez⟩, fun x H2 ⟨eH, k⟩ => by
      subst eH
      obtain rfl := Option.some.inj ((k zs p3).symm.trans ez)
      exact ⟨Ext.rfl', rz⟩⟩
  stop := fun g hr' e => Nat.le_refl _
theorem walk_up {lo : Int} {n : Nat} (hn : n ≤ sizeLine) : WalkS T (Itr lo n) (srcUp lo n) H U m where
  size := hn
  go := by
    intro H' U' m' h' i u g hr' hi e
    cases e
    exact ⟨hi, fun x H2 ⟨eH, ex⟩ => by subst eH ex; exact ⟨Ext.rfl', .int _⟩⟩
  stop := fun g hr' e => Nat.le_refl _
theorem walk_rng {lo c : Int} {n : Nat} (hn : n ≤ sizeLine) : WalkS T (Itc lo c n) (srcRng lo c n) H U m where
  size := hn
  go := by
    intro H' U' m' h' i u g hr' hi e
    cases e
    exact ⟨hi, fun x H2 ⟨eH, ex⟩ => by subst eH ex; exact ⟨Ext.rfl', .int _⟩⟩
  stop := fun g hr' e => Nat.le_refl _
end
section
variable {T : Tab} {X : Cx} {tg e e2 : Expr} {es : List Expr} {me : Ex} {ms : List Ex}
theorem ci_seq (he : CE T X e me) : CI T X tg e (sSeq1 srcSeq me) := fun ok W tk => ⟨fun pins s σ H R I ⟨U, m, r, h, hr, er, o⟩ => by
  cases em : me r h with
  | ok v h1 =>
    cases hv : v.isTup with
    | true =>
      refine (pi_tup (tg := tg) (he ok W tk)).run pins s σ H R I ⟨U, m, r, h, hr, er, ?_⟩
      rw [em]
      intro H1 U1 m1 g hr1 x rx
      simp only [sSeq1, em, Res.bind, srcSeq] at o
      split at o
      · rename_i xs ex
        obtain ⟨a, ys, rfl, q1, q2, q3⟩ := seq_rep hr1 rx ex
        rw [if_pos hv] at q3
        have w := walk_tup hr1 rx hv q2
        exact ⟨a, rfl, ⟨ys, by rw [ok.k]; exact q3⟩, by rw [ok.k]; exact o H1 U1 m1 g hr1 _ w⟩
      · exact o.elim
    | false =>
      refine (pi_list (tg := tg) (he ok W tk)).run pins s σ H R I ⟨U, m, r, h, hr, er, ?_⟩
      rw [em]
      intro H1 U1 m1 g hr1 x rx
      simp only [sSeq1, em, Res.bind, srcSeq] at o
      split at o
      · rename_i xs ex
        obtain ⟨a, ys, rfl, q1, q2, q3⟩ := seq_rep hr1 rx ex
        rw [if_neg (by rw [hv]; exact Bool.false_ne_true)] at q3
        have w := walk_lst hr1 rx hv q2
        exact ⟨a, rfl, ⟨ys, by rw [ok.k]; exact q3⟩, by rw [ok.k]; exact o H1 U1 m1 g hr1 _ w⟩
      · exact o.elim
  | exc _ _ =>
    refine (pi_list (tg := tg) (he ok W tk)).run pins s σ H R I ⟨U, m, r, h, hr, er, ?_⟩
    rw [em]
    simp only [sSeq1, em, Res.bind] at o
    exact o
  | stuck =>
    simp only [sSeq1, em, Res.bind] at o
    exact o.elim⟩
theorem ci_enum {p pos tpos : Pos} {elts : List Expr} {kk : Nat} (he : CE T X e me) (hg : Gl X "enumerate") (hm : X.mg "enumerate" = none) (hs : starEach [e] X.env = [(false, eval e X.env)] := by rfl) :
    CI T X (.Tuple elts kk tpos) (.Call (.Name "enumerate" p) [e] [] pos) (sSeq1 srcEnum me) := fun ok W tk => ⟨fun pins s σ H R I ⟨U, m, r, h, hr, er, o⟩ => by
  refine (pi_enum (tpos := tpos) (elts := elts) (kk := kk) hg hm (pa_cons (he ok W tk) pa_nil hs) hs).run pins s σ H R I ?_
  refine tE_then hr er o fun x H1 U1 m1 h1 v g1 hr1 er1 rx o1 => ?_
  unfold srcEnum at o1
  split at o1
  · rename_i xs ex
    split at o1
    · exact (show False from o1).elim
    · rename_i hv
      obtain ⟨a, ys, rfl, q1, q2, q3⟩ := seq_rep hr1 rx ex
      rw [if_neg hv] at q3
      have w := walk_enum hr1 rx (by simpa using hv) q2
      exact ⟨a, ys, rfl, by rw [ok.k]; exact q3, by rw [ok.k]; exact o1 H1 U1 m1 .refl hr1 _ w⟩
  · exact (show False from o1).elim⟩
theorem ci_range1 {p pos : Pos} (he : CE T X e me) (hg : Gl X "range") (hm : X.mg "range" = none) (hs : starEach [e] X.env = [(false, eval e X.env)] := by rfl) : CI T X tg (.Call (.Name "range" p) [e] [] pos) (sRng [me]) := fun ok W tk => ⟨fun pins s σ H R I ⟨U, m, r, h, hr, er, o⟩ => by
  refine (pi_range1 (tg := tg) hg hm ((ca_cons he ca_nil hs) ok W tk) hs).run pins s σ H R I ?_
  refine tA_then hr er o fun xs H1 U1 m1 h1 vs el g1 hr1 er1 rx o1 => ?_
  have hl := eArgs_len el
  cases rx with
  | nil => cases hl
  | cons r1 r2 =>
    cases r2 with
    | cons _ _ => cases hl
    | nil =>
      unfold srcR at o1
      split at o1
      · rename_i j hj
        cases hj
        split at o1
        · rename_i hc
          simp only [Bool.and_eq_true, decide_eq_true_eq] at hc
          cases r1
          refine ⟨j, rfl, hc.1.1, hc.1.2, o1 H1 U1 m1 .refl hr1 _ (walk_up (big_line (by unfold big; omega)))⟩
        · exact (show False from o1).elim
      · rename_i hj; cases hj
      · rename_i hj; cases hj
      · exact (show False from o1).elim⟩
theorem ci_range2 {p pos : Pos} {me2 : Ex} (he : CE T X e me) (he2 : CE T X e2 me2) (hg : Gl X "range") (hm : X.mg "range" = none) (hs : starEach [e, e2] X.env = [(false, eval e X.env), (false, eval e2 X.env)] := by rfl) (hs2 : starEach [e2] X.env = [(false, eval e2 X.env)] := by rfl) :
    CI T X tg (.Call (.Name "range" p) [e, e2] [] pos) (sRng [me, me2]) := fun ok W tk => ⟨fun pins s σ H R I ⟨U, m, r, h, hr, er, o⟩ => by
  refine (pi_range2 (tg := tg) hg hm ((ca_cons he (ca_cons he2 ca_nil hs2) (by rw [hs, hs2])) ok W tk) hs hs2).run pins s σ H R I ?_
  refine tA_then hr er o fun xs H1 U1 m1 h1 vs el g1 hr1 er1 rx o1 => ?_
  have hl := eArgs_len el
  cases rx with
  | nil => cases hl
  | cons r1 r2 =>
    cases r2 with
    | nil => cases hl
    | cons r2 r3 =>
      cases r3 with
      | cons _ _ => cases hl
      | nil =>
        unfold srcR at o1
        split at o1
        · rename_i hj; cases hj
        · rename_i i j hj
          cases hj
          split at o1
          · rename_i hc
            simp only [Bool.and_eq_true, decide_eq_true_eq] at hc
            cases r1
            cases r2
            refine ⟨i, j, rfl, ⟨hc.1.1.1, hc.1.1.2, hc.1.2.1, hc.1.2.2⟩, o1 H1 U1 m1 .refl hr1 _ (walk_up (big_line (by unfold big; omega)))⟩
          · exact (show False from o1).elim
        · rename_i hj; cases hj
        · exact (show False from o1).elim⟩
theorem ci_range3 {p pos : Pos} {e3 : Expr} {me2 me3 : Ex} (he : CE T X e me) (he2 : CE T X e2 me2) (he3 : CE T X e3 me3) (hg : Gl X "range") (hm : X.mg "range" = none)
    (hs : starEach [e, e2, e3] X.env = (false, eval e X.env) :: starEach [e2, e3] X.env := by rfl) (hs2 : starEach [e2, e3] X.env = (false, eval e2 X.env) :: starEach [e3] X.env := by rfl) (hs3 : starEach [e3] X.env = (false, eval e3 X.env) :: starEach [] X.env := by rfl)
    (hpl : (backTo pos (starEach [e2, e3] X.env)).any (·.1) = false := by rfl) :
    CI T X tg (.Call (.Name "range" p) [e, e2, e3] [] pos) (sRng [me, me2, me3]) := fun ok W tk => ⟨fun pins s σ H R I ⟨U, m, r, h, hr, er, o⟩ => by
  refine (pi_range3 (tg := tg) hg hm ((ca_cons he (ca_cons he2 (ca_cons he3 ca_nil hs3) hs2) hs) ok W tk) hs hpl).run pins s σ H R I ?_
  refine tA_then hr er o fun xs H1 U1 m1 h1 vs el g1 hr1 er1 rx o1 => ?_
  have hl := eArgs_len el
  cases rx with
  | nil => cases hl
  | cons r1 r2 =>
    cases r2 with
    | nil => cases hl
    | cons r2 r3 =>
      cases r3 with
      | nil => cases hl
      | cons r3 r4 =>
        cases r4 with
        | cons _ _ => cases hl
        | nil =>
          unfold srcR at o1
          split at o1
          · rename_i hj; cases hj
          · rename_i hj; cases hj
          · rename_i i j hj
            cases hj
            split at o1
            · rename_i hc
              simp only [Bool.and_eq_true, decide_eq_true_eq] at hc
              cases r1
              cases r2
              cases r3
              refine ⟨i, j, -1, (i - j).toNat, rfl, RgC.neg hc.1.1.1 hc.1.1.2 hc.1.2.1 hc.1.2.2, o1 H1 U1 m1 .refl hr1 _ (walk_rng (big_line (by unfold big; omega)))⟩
            · exact (show False from o1).elim
          · exact (show False from o1).elim⟩
theorem ci_rev {p pos : Pos} (he : CE T X e me) (hg : Gl X "reversed") (hm : X.mg "reversed" = none) (hs : starEach [e] X.env = (false, eval e X.env) :: starEach [] X.env := by rfl) :
    CI T X tg (.Call (.Name "reversed" p) [e] [] pos) (sSeq1 srcRev me) := fun ok W tk => ⟨fun pins s σ H R I ⟨U, m, r, h, hr, er, o⟩ => by
  refine (RT.pi_revA (tg := tg) hg hm (he ok W tk) hs).run pins s σ H R I ?_
  refine tE_then hr er o fun x H1 U1 m1 h1 v g1 hr1 er1 rx o1 => ?_
  unfold srcRev at o1
  split at o1
  · rename_i xs ex
    obtain ⟨a, ys, rfl, q1, q2, q3⟩ := seq_rep hr1 rx ex
    refine ⟨a, ys, rfl, ?_⟩
    have o2 := o1 H1 U1 m1 .refl hr1
    have hl := q1.length
    cases hv : v.isTup with
    | true =>
      rw [hv, if_pos rfl] at q3
      exact .inr ⟨by rw [ok.k]; exact q3, by rw [ok.k, ← hl]; exact o2 _ (walk_revT hr1 rx hv q2)⟩
    | false =>
      rw [hv, if_neg Bool.false_ne_true] at q3
      exact .inl ⟨by rw [ok.k]; exact q3, by rw [ok.k, ← hl]; exact o2 _ (walk_revL hr1 rx hv q2)⟩
  · exact (show False from o1).elim⟩
theorem ci_zip {p pos tpos : Pos} {elts : List Expr} {kk : Nat} {me2 : Ex} (he : CE T X e me) (he2 : CE T X e2 me2) (hg : Gl X "zip") (hm : X.mg "zip" = none)
    (hs : starEach [e, e2] X.env = (false, eval e X.env) :: starEach [e2] X.env := by rfl) (hs2 : starEach [e2] X.env = (false, eval e2 X.env) :: starEach [] X.env := by rfl) (hpl : (backTo pos (starEach [e2] X.env)).any (·.1) = false := by rfl) :
    CI T X (.Tuple elts kk tpos) (.Call (.Name "zip" p) [e, e2] [] pos) (sZip [me, me2]) := fun ok W tk => ⟨fun pins s σ H R I ⟨U, m, r, h, hr, er, o⟩ => by
  refine (RZ.pi_zipA (tpos := tpos) (elts := elts) (kk := kk) hg hm ((ca_cons he (ca_cons he2 ca_nil hs2) hs) ok W tk) hs hpl).run pins s σ H R I ?_
  refine tA_then hr er o fun xs H1 U1 m1 h1 vs el g1 hr1 er1 rx o1 => ?_
  have hl := eArgs_len el
  cases rx with
  | nil => cases hl
  | cons r1 r2 =>
    cases r2 with
    | nil => cases hl
    | cons r2 r3 =>
      cases r3 with
      | cons _ _ => cases hl
      | nil =>
        rename_i v x w' y
        have o1 : Out T H1 U1 m1 W (srcZip v w' h1) fun src _ H' U' m' => ∀ J, WalkS T J src H' U' m' → R J H' := o1
        unfold srcZip at o1
        split at o1
        · rename_i xs ys ex ey
          split at o1
          · rename_i hvw
            obtain ⟨a, xv, rfl, p1, p2, p3⟩ := seq_rep hr1 r1 ex
            obtain ⟨b, yv, rfl, q1, q2, q3⟩ := seq_rep hr1 r2 ey
            refine ⟨a, b, xv, yv, rfl, ?_⟩
            have o2 := o1 H1 U1 m1 .refl hr1
            have hsz : min xs.length ys.length ≤ sizeLine := Nat.le_trans (Nat.min_le_left _ _) p2
            cases hv : v.isTup with
            | true =>
              have hw : w'.isTup = true := hvw ▸ hv
              rw [hv, if_pos rfl] at p3
              rw [hw, if_pos rfl] at q3
              exact .inr ⟨by rw [ok.k]; exact p3, by rw [ok.k]; exact q3, by rw [ok.k]; exact o2 _ (walk_zipT hr1 r1 r2 hv hw hsz)⟩
            | false =>
              have hw : w'.isTup = false := hvw ▸ hv
              rw [hv, if_neg Bool.false_ne_true] at p3
              rw [hw, if_neg Bool.false_ne_true] at q3
              exact .inl ⟨by rw [ok.k]; exact p3, by rw [ok.k]; exact q3, by rw [ok.k]; exact o2 _ (walk_zipL hr1 r1 r2 hv hw hsz)⟩
          · exact (show False from o1).elim
        · exact (show False from o1).elim⟩
end
end SW

namespace SW
open PySem PySem.Spec PyProof.Rows L2

/-! ### values without located parts -/
mutual
def dv0 (f : Nat → Option Val) : Val → Option Val
  | .tup xs => (dvs0 f xs).map .tup
  | .lst xs => (dvs0 f xs).map .lst
  | .dct ks vs => (dvs0 f vs).map (.dct ks)
  | .ins c fs => (dvs0 f fs).map (.ins c)
  | .ref l => f l
  | v => some v
def dvs0 (f : Nat → Option Val) : List Val → Option (List Val)
  | [] => some []
  | v :: vs => match dv0 f v, dvs0 f vs with
    | some w, some ws => some (w :: ws)
    | _, _ => none
end
mutual
def free : Val → Bool
  | .tup xs => frees xs
  | .lst xs => frees xs
  | .dct _ vs => frees vs
  | .ins _ fs => frees fs
  | .ref _ => false
  | _ => true
def frees : List Val → Bool
  | [] => true
  | v :: vs => free v && frees vs
end
mutual
/-- tuples of atoms -/
def flat : Val → Bool
  | .tup xs => flats xs
  | .non => true
  | .bl _ => true
  | .int _ => true
  | .str _ => true
  | _ => false
def flats : List Val → Bool
  | [] => true
  | v :: vs => flat v && flats vs
end
/-- what a located object is, n deep -/
def dvF : Nat → PH → Nat → Option Val
  | 0, _ => fun _ => none
  | n + 1, h => fun l => match h[l]? with
    | some (.lst xs) => (dvs0 (dvF n h) xs).map .lst
    | some (.dct ks vs) => (dvs0 (dvF n h) vs).map (.dct ks)
    | some (.ins (c + 1) fs) => (dvs0 (dvF n h) fs).map (.ins (c + 1))
    | _ => none
/-- with the located objects' values in place, n deep -/
def dvN (n : Nat) (h : PH) : Val → Option Val := dv0 (dvF n h)
mutual
theorem dv0_free (f : Nat → Option Val) : ∀ {v : Val}, free v = true → dv0 f v = some v
  | .tup xs, h => by unfold dv0; rw [dvs0_free f (by simpa [free] using h)]; rfl
  | .lst xs, h => by unfold dv0; rw [dvs0_free f (by simpa [free] using h)]; rfl
  | .dct ks vs, h => by unfold dv0; rw [dvs0_free f (by simpa [free] using h)]; rfl
  | .ins c fs, h => by unfold dv0; rw [dvs0_free f (by simpa [free] using h)]; rfl
  | .ref _, h => by simp [free] at h
  | .non, _ => rfl
  | .bl _, _ => rfl
  | .int _, _ => rfl
  | .str _, _ => rfl
theorem dvs0_free (f : Nat → Option Val) : ∀ {vs : List Val}, frees vs = true → dvs0 f vs = some vs
  | [], _ => rfl
  | v :: vs, h => by
    simp only [frees, Bool.and_eq_true] at h
    unfold dvs0
    rw [dv0_free f h.1, dvs0_free f h.2]
end
theorem dvN_free {v : Val} (n : Nat) (h : PH) (e : free v = true) : dvN n h v = some v := by
  exact dv0_free _ e
theorem frees_all {vs : List Val} : frees vs = vs.all free := by
  induction vs with
  | nil => rfl
  | cons v vs ih => simp [frees, ih]
theorem flats_all {vs : List Val} : flats vs = vs.all flat := by
  induction vs with
  | nil => rfl
  | cons v vs ih => simp [flats, ih]
mutual
theorem flat_free : ∀ {v : Val}, flat v = true → free v = true
  | .tup xs, h => by unfold free; exact flats_frees (by simpa [flat] using h)
  | .non, _ => rfl
  | .bl _, _ => rfl
  | .int _, _ => rfl
  | .str _, _ => rfl
  | .lst _, h => by simp [flat] at h
  | .dct _ _, h => by simp [flat] at h
  | .ins _ _, h => by simp [flat] at h
  | .ref _, h => by simp [flat] at h
theorem flats_frees : ∀ {vs : List Val}, flats vs = true → frees vs = true
  | [], _ => rfl
  | v :: vs, h => by
    simp only [flats, Bool.and_eq_true] at h
    unfold frees
    rw [flat_free h.1, flats_frees h.2]; rfl
end
theorem dvs0_len {f : Nat → Option Val} : ∀ {vs ws : List Val}, dvs0 f vs = some ws → ws.length = vs.length
  | [], _, e => by cases e; rfl
  | v :: vs, _, e => by
    unfold dvs0 at e
    split at e
    · rename_i w ws e1 e2
      cases e
      simp [dvs0_len e2]
    · cases e
section
variable {T : Tab} {H : Hp} {U U' : Addr → Prop} {m m' : List (Option Addr)} {h : PH}
mutual
theorem dv0_rep {f : Nat → Option Val} (hU : ∀ a, U a → U' a) (hf : ∀ (l : Nat) (v : Val) (x : V), f l = some v → Rep T H U' m' (.ref l) x → Rep T H U m v x) : ∀ {v w : Val} {x : V}, dv0 f v = some w → Rep T H U' m' v x → Rep T H U m w x
  | .non, _, _, e, r => by cases e; cases r; exact .non
  | .bl _, _, _, e, r => by cases e; cases r; exact .bl _
  | .int _, _, _, e, r => by cases e; cases r; exact .int _
  | .str _, _, _, e, r => by cases e; cases r; exact .str _
  | .ref _, _, _, e, r => hf _ _ _ e r
  | .tup xs, _, _, e, r => by
    unfold dv0 at e
    cases q : dvs0 f xs with
    | none => rw [q] at e; cases e
    | some ys =>
      rw [q] at e; cases e
      cases r with
      | tup h0 h1 h2 => exact .tup (by rw [dvs0_len q]; exact h0) h1 (dvs0_rep hU hf q h2)
  | .lst xs, _, _, e, r => by
    unfold dv0 at e
    cases q : dvs0 f xs with
    | none => rw [q] at e; cases e
    | some ys =>
      rw [q] at e; cases e
      cases r with
      | lst h0 h1 h2 h3 => exact .lst (by rw [dvs0_len q]; exact h0) h1 (fun z => h2 (hU _ z)) (dvs0_rep hU hf q h3)
  | .dct ks xs, _, _, e, r => by
    unfold dv0 at e
    cases q : dvs0 f xs with
    | none => rw [q] at e; cases e
    | some ys =>
      rw [q] at e; cases e
      cases r with
      | dK h1 h2 h3 h4 => exact .dK h1 (fun z => h2 (hU _ z)) h3 (dvs0_rep hU hf q h4)
      | dT h1 h2 h3 h4 => exact .dT h1 (fun z => h2 (hU _ z)) h3 (dvs0_rep hU hf q h4)
  | .ins c xs, _, _, e, r => by
    unfold dv0 at e
    cases q : dvs0 f xs with
    | none => rw [q] at e; cases e
    | some ys =>
      rw [q] at e; cases e
      cases r with
      | scr h0 h1 h4 => exact .scr (by rw [dvs0_len q]; exact h0) (h1.imp (fun z => ⟨z.1, fun y => z.2 (hU _ y)⟩) id) (dvs0_rep hU hf q h4)
      | ins h0 h1 h2 h3 h4 => exact .ins h0 h1 h2 (fun z => h3 (hU _ z)) (dvs0_rep hU hf q h4)
theorem dvs0_rep {f : Nat → Option Val} (hU : ∀ a, U a → U' a) (hf : ∀ (l : Nat) (v : Val) (x : V), f l = some v → Rep T H U' m' (.ref l) x → Rep T H U m v x) : ∀ {vs ws : List Val} {xs : List V}, dvs0 f vs = some ws → Reps T H U' m' vs xs → Reps T H U m ws xs
  | [], _, _, e, r => by cases e; cases r; exact .nil
  | v :: vs, _, _, e, r => by
    unfold dvs0 at e
    split at e
    · rename_i w ws e1 e2
      cases e
      cases r with
      | cons r1 r2 => exact .cons (dv0_rep hU hf e1 r1) (dvs0_rep hU hf e2 r2)
    · cases e
end
theorem dvF_rep (hr : HR T H U' m' h) (hU : ∀ a, U a → U' a) (hN : ∀ a, Lv m' a → ¬ U a) : ∀ (n : Nat) (l : Nat) (w : Val) (x : V), dvF n h l = some w → Rep T H U' m' (.ref l) x → Rep T H U m w x
  | 0, l, w, x, e, r => by cases e
  | n + 1, l, w, x, e, r => by
    have ih := dvF_rep hr hU hN n
    unfold dvF at e
    cases r with
    | ref hl er =>
      split at e
      · rename_i xs ex
        rcases hr.obj l _ ex with ⟨_, e0⟩ | ⟨b, e1, xv, ea, rs, hz⟩
        · cases e0
        · obtain rfl := er b e1
          cases q : dvs0 (dvF n h) xs with
          | none => rw [q] at e; cases e
          | some ys =>
            rw [q] at e; cases e
            exact .lst (by rw [dvs0_len q]; exact hz) ea (hN b ⟨l, e1⟩) (dvs0_rep hU ih q rs)
      · rename_i ks xs ex
        rcases hr.obj l _ ex with ⟨_, e0⟩ | ⟨b, e1, ob⟩
        · cases e0
        · obtain rfl := er b e1
          cases q : dvs0 (dvF n h) xs with
          | none => rw [q] at e; cases e
          | some ys =>
            rw [q] at e; cases e
            rcases ob with ⟨kvs, a1, a2, a3⟩ | ⟨kvs, a1, a2, a3⟩
            · exact .dK a1 (hN b ⟨l, e1⟩) a2 (dvs0_rep hU ih q a3)
            · exact .dT a1 (hN b ⟨l, e1⟩) a2 (dvs0_rep hU ih q a3)
      · rename_i c fs ex
        rcases hr.obj l _ ex with ⟨_, e0⟩ | ⟨b, e1, dx, xs, a1, a2, a3⟩
        · cases e0
        · obtain rfl := er b e1
          cases q : dvs0 (dvF n h) fs with
          | none => rw [q] at e; cases e
          | some ys =>
            rw [q] at e; cases e
            exact .ins (Nat.succ_ne_zero c) a1 a2 (hN b ⟨l, e1⟩) (dvs0_rep hU ih q a3)
      · cases e
/-- the located objects, told as what is never written: none of them may be written in U -/
theorem dvN_rep (hr : HR T H U' m' h) (hU : ∀ a, U a → U' a) (hN : ∀ a, Lv m' a → ¬ U a) (n : Nat) {v w : Val} {x : V} (e : dvN n h v = some w) (r : Rep T H U' m' v x) : Rep T H U m w x :=
  dv0_rep hU (dvF_rep hr hU hN n) e r
mutual
theorem flat_rep : ∀ {v : Val} {x : V}, flat v = true → Rep T H U' m' v x → Rep T H U m v x
  | .tup xs, _, h, r => by
    cases r with
    | tup h0 h1 h2 => exact .tup h0 h1 (flats_rep (by simpa [flat] using h) h2)
  | .non, _, _, r => by cases r; exact .non
  | .bl _, _, _, r => by cases r; exact .bl _
  | .int _, _, _, r => by cases r; exact .int _
  | .str _, _, _, r => by cases r; exact .str _
  | .lst _, _, h, _ => by simp [flat] at h
  | .dct _ _, _, h, _ => by simp [flat] at h
  | .ins _ _, _, h, _ => by simp [flat] at h
  | .ref _, _, h, _ => by simp [flat] at h
theorem flats_rep : ∀ {vs : List Val} {xs : List V}, flats vs = true → Reps T H U' m' vs xs → Reps T H U m vs xs
  | [], _, _, r => by cases r; exact .nil
  | v :: vs, _, h, r => by
    simp only [flats, Bool.and_eq_true] at h
    cases r with
    | cons r1 r2 => exact .cons (flat_rep h.1 r1) (flats_rep h.2 r2)
end
theorem HR.nil (hr : HR T H U m h) : HR T H U [] [] := ⟨rfl, fun l k a e => by simp at e, fun a ⟨l, e⟩ => by simp at e, hr.us, fun l o e => by simp at e⟩
theorem HR.none (H : Hp) : HR T H (fun _ => False) [] [] := ⟨rfl, fun l k a e => by simp at e, fun a ⟨l, e⟩ => by simp at e, fun _ z => z.elim, fun l o e => by simp at e⟩
end

/-! ### defs -/
abbrev Dm := List Val → SM Val
def defRun (n : Nat) (ms : Stm) : Dm := fun vs h => (ms (vs.map some ++ List.replicate (n - vs.length) none) h).bind fun f h1 => match f with
  | .nx _ => .ok .non h1
  | .rt v => .ok v h1
  | _ => .stuck
/-- what a def promises -/
def spOf (T : Tab) (d : Dm) (n : Nat) : Sp := fun xs H Q E => ∃ U m h vs, HR T H U m h ∧ Reps T H U m vs xs ∧ xs.length = n ∧ Out T H U m E (d vs h) fun v _ H' U' m' => ∀ x, Rep T H' U' m' v x → Q x H'
theorem ER.start {T : Tab} {H : Hp} {U : Addr → Prop} {m : List (Option Addr)} {vs : List Val} {xs : List V} (N : List Str) (r : Reps T H U m vs xs) : ER T H U m (vs.map some ++ List.replicate (N.length - vs.length) none) (L2.start N xs) := by
  have hl := r.length
  refine ⟨by unfold L2.start; simp [hl], fun i v e => ?_⟩
  unfold L2.start
  by_cases hi : i < vs.length
  · rw [List.getElem?_append_left (by simpa using hi), List.getElem?_map] at e
    cases q : vs[i]? with
    | none => rw [q] at e; cases e
    | some w =>
      rw [q] at e; cases e
      obtain ⟨x, ex, rx⟩ := r.get q
      refine ⟨x, ?_, rx⟩
      rw [List.getElem?_append_left (by simp; omega), List.getElem?_map, ex]; rfl
  · rw [List.getElem?_append_right (by simpa using hi), List.getElem?_replicate] at e
    split at e <;> cases e
section
variable {T : Tab} {P : Program} {w : World} {K : PySem.W.Frag} {mg : Str → Option Value} {base : Heap}
/-- a def by its body -/
theorem fn_okX {x qual : Str} {st : Stmt} {f : Addr} {fd : FuncData} {N ps : List Str} {k : Nat} {ms : Stm} (hT : T.K = K) (F : Fun K x qual st f fd) (S : FnScope N ps (defScope st))
    (hb : ∀ (cdv : Value) (A : Around) (outer : List Env) (s : Shared) (H : Hp) (E : XK), Room k (A.deeper (envOfC qual (defScope st) s.heap.objs.size f cdv)) → CSs T (cxOf (L2.CX P w) P w K mg base N qual (defScope st) f cdv A outer s H E) (defBody st) ms) :
    FnOk P w K mg base (L2.CX P w) (k + 1) f fd ps (spOf T (defRun N.length ms) ps.length) := by
  refine F.okX S (fun vs H Q E h => ?_) fun cdv A outer s H xs Q E hr h => ?_
  · obtain ⟨_, _, _, _, _, _, e, _⟩ := h
    exact e
  · refine ⟨_, hb cdv A outer s H E hr ⟨hT.symm, rfl, S.nd, ?_, hr.hd⟩ (passes_of (K := fun e s'' => L2.CX P w outer H s E e s'') (E₁ := fun e' s'' => L2.CX P w outer H s E e' s'') rfl) E (Tk.of_takes (takes_of rfl rfl rfl (E₁ := fun e' s'' => L2.CX P w outer H s E e' s'') rfl)), ?_⟩
    · have := hr.un
      show (A.deeper _).units + 100 < cLine
      omega
    · obtain ⟨U, m, h0, vs, hr0, rv, _, o⟩ := h
      refine ⟨U, m, _, h0, hr0, ER.start N rv, (Out.bind hr0 o).mono fun fl h1 H1 U1 m1 g hr1 o1 => ?_⟩
      cases fl with
      | nx r => exact fun σ' er' => o1 H1 U1 m1 .refl hr1 .non .non
      | rt v => exact fun x rx => o1 H1 U1 m1 .refl hr1 x rx
      | bk r => exact (show False from o1).elim
      | ct r => exact (show False from o1).elim
end

/-! ### calls of defs -/
/-- on the caller's own objects -/
def eCallD (d : Dm) (ms : List Ex) : Ex := fun r h => (eArgs ms r h).bind fun vs h1 => d vs h1
/-- what an exception tells -/
def exFlat : Val → Bool
  | .ins _ [] => true
  | .ins _ [v] => flat v
  | _ => false
/-- apart from the caller's objects -/
def apart (d : Dm) (vs : List Val) : SM Val := fun h => if frees vs then (match d vs [] with
  | .ok v h2 => lift (dvN 3 h2 v) h
  | .exc e _ => if exFlat e then .exc e h else .stuck
  | .stuck => .stuck) else .stuck
def eCallP (d : Dm) (ms : List Ex) : Ex := eCallD (apart d) ms
/-- the same, its arguments as they stand: what is told back holds no list -/
def still (d : Dm) (vs : List Val) : SM Val := fun h => match dvs0 (dvF 3 h) vs with
  | some ws => (match d ws [] with
    | .ok v _ => if flat v then .ok v h else .stuck
    | .exc e _ => if exFlat e then .exc e h else .stuck
    | .stuck => .stuck)
  | none => .stuck
def eCallS (d : Dm) (ms : List Ex) : Ex := eCallD (still d) ms
/-- apart; what is told back is a new list -/
def apartN (d : Dm) (vs : List Val) : SM (List Val) := fun h => if frees vs then (match d vs [] with
  | .ok (.ref l) h2 => (match h2[l]? with
    | some (.lst xs) => if frees xs then .ok xs h else .stuck
    | _ => .stuck)
  | .ok _ _ => .stuck
  | .exc e _ => if exFlat e then .exc e h else .stuck
  | .stuck => .stuck) else .stuck
def eCallNP (d : Dm) (ms : List Ex) : Ev → SM (List Val) := fun r h => (eArgs ms r h).bind fun vs h1 => apartN d vs h1
section
variable {T : Tab} {H H' : Hp} {U U' : Addr → Prop} {m m' : List (Option Addr)} {h h2 : PH} {W : WC} {Q : VK} {vs : List Val} {xs : List V} {d : Dm}
theorem exr_flat {e : Val} {cls : Value} {dd : Option Addr} (he : exFlat e = true) (x : ExR T H' U' m' e cls dd) : ExR T H' U m e cls dd := by
  unfold exFlat at he
  split at he
  · exact x
  · obtain ⟨h1, d1, x1, f1, h2, h3, h4, h5⟩ := x
    exact ⟨h1, d1, x1, f1, h2, h3, h4, flat_rep he h5⟩
  · cases he
/-- how a run of d is asked -/
def Asked (T : Tab) (H : Hp) (W : WC) (d : Dm) (xs : List V) (Q : VK) : Prop := ∃ U m h vs, HR T H U m h ∧ Reps T H U m vs xs ∧ Out T H U m W (d vs h) fun v _ H' U' m' => ∀ x, Rep T H' U' m' v x → Q x H'
theorem apart_ok (hr : HR T H U m h) (rv : Reps T H U m vs xs) (o : Out T H U m W (apart d vs h) fun v _ H' U' m' => ∀ x, Rep T H' U' m' v x → Q x H') : Asked T H W d xs Q := by
  unfold apart at o
  split at o
  · rename_i hf
    refine ⟨U, [], [], vs, hr.nil, dvs0_rep (f := fun _ => none) (fun _ z => z) (fun _ _ _ e _ => by cases e) (dvs0_free _ hf) rv, ?_⟩
    split at o
    · rename_i v h2 e
      rw [e]
      intro H' U' m' g hr' x rx
      obtain ⟨w, ew⟩ := Out.lift_some o
      have ex : Ext H H' := fun a ob ea => g.keep a ob (fun ⟨l, z⟩ => by simp at z) ea
      have hU : ∀ a, U a → U' a := fun a z => g.up a z (fun q => by obtain ⟨u, e1, _⟩ := hr.us a z; rw [q] at e1; cases e1) fun ⟨l, z⟩ => by simp at z
      have hN : ∀ a, Lv m' a → ¬ U a := fun a ⟨l, z⟩ hu => hr.notin (g.ext.new l a (Nat.zero_le _) z) hu
      rw [ew] at o
      exact o H' U m (Gr.of_ext ex) (hr.ext ex) x (dvN_rep hr' hU hN 3 ew rx)
    · rename_i e h2 e1
      rw [e1]
      split at o
      · rename_i hf2
        intro H' U' m' cls dd g hr' xr
        have ex : Ext H H' := fun a ob ea => g.keep a ob (fun ⟨l, z⟩ => by simp at z) ea
        exact o H' U m cls dd (Gr.of_ext ex) (hr.ext ex) (exr_flat hf2 xr)
      · exact (show False from o).elim
    · exact (show False from o).elim
  · exact (show False from o).elim
theorem still_ok (hr : HR T H U m h) (rv : Reps T H U m vs xs) (o : Out T H U m W (still d vs h) fun v _ H' U' m' => ∀ x, Rep T H' U' m' v x → Q x H') : Asked T H W d xs Q := by
  unfold still at o
  split at o
  · rename_i ws ew
    refine ⟨fun _ => False, [], [], ws, HR.none H, dvs0_rep (fun _ z => z.elim) (dvF_rep hr (fun _ z => z.elim) (fun _ _ z => z) 3) ew rv, ?_⟩
    split at o
    · rename_i v h2 e
      rw [e]
      intro H' U' m' g hr' x rx
      have ex : Ext H H' := fun a ob ea => g.keep a ob (fun ⟨l, z⟩ => by simp at z) ea
      split at o
      · rename_i hf
        exact o H' U m (Gr.of_ext ex) (hr.ext ex) x (flat_rep hf rx)
      · exact (show False from o).elim
    · rename_i e h2 e1
      rw [e1]
      split at o
      · rename_i hf2
        intro H' U' m' cls dd g hr' xr
        have ex : Ext H H' := fun a ob ea => g.keep a ob (fun ⟨l, z⟩ => by simp at z) ea
        exact o H' U m cls dd (Gr.of_ext ex) (hr.ext ex) (exr_flat hf2 xr)
      · exact (show False from o).elim
    · exact (show False from o).elim
  · exact (show False from o).elim
theorem apartN_ok (hr : HR T H U m h) (rv : Reps T H U m vs xs) (o : OutN T H U m W (apartN d vs h) Q) : Asked T H W d xs Q := by
  unfold apartN at o
  split at o
  · rename_i hf
    refine ⟨U, [], [], vs, hr.nil, dvs0_rep (f := fun _ => none) (fun _ z => z) (fun _ _ _ e _ => by cases e) (dvs0_free _ hf) rv, ?_⟩
    split at o
    · rename_i l h2 e
      split at o
      · rename_i ys ey
        split at o
        · rename_i hfy
          rw [e]
          intro H' U' m' g hr' x rx
          have ex : Ext H H' := fun a ob ea => g.keep a ob (fun ⟨l, z⟩ => by simp at z) ea
          rcases hr'.obj l _ ey with ⟨_, e0⟩ | ⟨b, e1, xv, ea, rs, hz⟩
          · cases e0
          · cases rx with
            | ref hl er =>
              obtain rfl := er b e1
              have hb : H b = none := g.ext.new l b (Nat.zero_le _) e1
              have hU : ∀ a, addU U b a → U' a := fun a z => z.elim (fun z => g.up a z (fun q => by obtain ⟨u, e1, _⟩ := hr.us a z; rw [q] at e1; cases e1) fun ⟨l, z⟩ => by simp at z) fun z => z ▸ hr'.sub b ⟨l, e1⟩
              refine o H' U m b xv ⟨hr.notin hb, hr.notlv hb, hb, Gr.of_ext ex, ?_, ea, dvs0_rep (f := fun _ => none) hU (fun _ _ _ e _ => by cases e) (dvs0_free _ hfy) rs, hz⟩
              exact (hr.addU (o := .lst xv) hb True.intro).ext fun a ob e => by
                by_cases q : a = b
                · subst q; rw [upd_same] at e; cases e; exact ea
                · rw [upd_ne q] at e; exact ex a ob e
        · exact (show False from o).elim
      · exact (show False from o).elim
    · exact (show False from o).elim
    · rename_i e h2 e1
      rw [e1]
      split at o
      · rename_i hf2
        intro H' U' m' cls dd g hr' xr
        have ex : Ext H H' := fun a ob ea => g.keep a ob (fun ⟨l, z⟩ => by simp at z) ea
        exact o H' U m cls dd (Gr.of_ext ex) (hr.ext ex) (exr_flat hf2 xr)
      · exact (show False from o).elim
    · exact (show False from o).elim
  · exact (show False from o).elim
end
/-- a def as a caller knows it -/
structure Dk (T : Tab) (X : Cx) (x : Str) (n : Nat) (d : Dm) : Prop where
  ok : ∃ (k : Nat) (f : Addr) (fd : FuncData) (ps : List Str), ps.length = n ∧ FnOk X.prog X.w X.K X.mg X.base (L2.CX X.prog X.w) k f fd ps (spOf T d n) ∧ Room k X.A ∧ X.mg x = some (.ref f) ∧ PySem.W.keepIn X.K (.ref f) = true ∧ Binds X.K fd ps []
section
variable {T : Tab} {X : Cx} {e : Expr} {es : List Expr} {me : Ex} {ms : List Ex} {x : Str} {p pos : Pos} {n : Nat} {d : Dm}
theorem Asked.sp {H : Hp} {W : WC} {xs : List V} {Q : VK} (a : Asked T H W d xs Q) (hn : xs.length = n) : spOf T d n (xs ++ []) H Q W := by
  obtain ⟨U, m, h, vs, h1, h2, h3⟩ := a
  rw [List.append_nil]
  exact ⟨U, m, h, vs, h1, h2, hn, h3⟩
theorem pe_dk {t : TE} (D : Dk T X x n d) (hg : Gl X x) (ha : CA T X (e :: es) (eArgs ms)) (ok : XOk T X) {W : WC} (tk : Tk X W) (ht : ∀ σ H Q, t σ H Q → tA T W (eArgs ms) σ H fun xs H1 => Asked T H1 W d xs Q ∧ xs.length = n)
    (hdb : (x == ("__debug__" : Str)) = false := by decide) (he : starEach (e :: es) X.env = (false, eval e X.env) :: starEach es X.env := by rfl) (hpl : (backTo pos (starEach es X.env)).any (·.1) = false := by rfl) : PE X (.Call (.Name x p) (e :: es) [] pos) t := by
  obtain ⟨k, f, fd, ps, hn, F, hr, hm, hk, hb⟩ := D.ok
  refine pe_imp (pe_call (dvs := []) (ds := []) F hr hg hm hk hb .nil (E := W) (fun pins σ H s e s' I c => tk pins σ H s e s' W (fun _ _ _ h => h) I c) (ha ok W tk) hdb he hpl) fun σ H Q q => ?_
  have q1 := ht σ H Q q
  obtain ⟨U, m, r, h, hr0, er, o⟩ := q1
  exact ⟨U, m, r, h, hr0, er, o.mono fun vs h' H' U' m' g hr' k xs rx => let ⟨a, b⟩ := k xs rx; a.sp b⟩
theorem pe_dk0 {t : TE} (D : Dk T X x 0 d) (hg : Gl X x) (ok : XOk T X) {W : WC} (tk : Tk X W) (ht : ∀ σ H Q, t σ H Q → Asked T H W d [] Q) (hdb : (x == ("__debug__" : Str)) = false := by decide) : PE X (.Call (.Name x p) [] [] pos) t := by
  obtain ⟨k, f, fd, ps, hn, F, hr, hm, hk, hb⟩ := D.ok
  refine pe_imp (pe_call0 (dvs := []) (ds := []) F hr hg hm hk hb .nil (E := W) (fun pins σ H s e s' I c => tk pins σ H s e s' W (fun _ _ _ h => h) I c) hdb) fun σ H Q q => ?_
  exact (ht σ H Q q).sp rfl
theorem args_n {W : WC} {σ : L2.St} {H : Hp} {Q : VK} {d' : Dm} (hn : ms.length = n) (h : ∀ {H : Hp} {U : Addr → Prop} {m : List (Option Addr)} {h : PH} {vs : List Val} {xs : List V}, HR T H U m h → Reps T H U m vs xs → (Out T H U m W (d' vs h) fun v _ H' U' m' => ∀ x, Rep T H' U' m' v x → Q x H') → Asked T H W d xs Q)
    (q : tE T W (eCallD d' ms) σ H Q) : tA T W (eArgs ms) σ H fun xs H1 => Asked T H1 W d xs Q ∧ xs.length = n := by
  obtain ⟨U, m, r, h0, hr, er, o⟩ := q
  refine tA_then hr er o fun xs H1 U1 m1 h1 vs e1 g1 hr1 er1 rxs o1 => ⟨h hr1 rxs o1, ?_⟩
  rw [← rxs.length, eArgs_len e1, hn]
theorem ce_callD (D : Dk T X x n d) (hg : Gl X x) (ha : CA T X (e :: es) (eArgs ms)) (hn : ms.length = n := by rfl)
    (hdb : (x == ("__debug__" : Str)) = false := by decide) (he : starEach (e :: es) X.env = (false, eval e X.env) :: starEach es X.env := by rfl) (hpl : (backTo pos (starEach es X.env)).any (·.1) = false := by rfl) : CE T X (.Call (.Name x p) (e :: es) [] pos) (eCallD d ms) := fun ok W tk =>
  pe_dk D hg ha ok tk (fun σ H Q q => args_n hn (fun hr rv o => ⟨_, _, _, _, hr, rv, o⟩) q) hdb he hpl
theorem ce_callP (D : Dk T X x n d) (hg : Gl X x) (ha : CA T X (e :: es) (eArgs ms)) (hn : ms.length = n := by rfl)
    (hdb : (x == ("__debug__" : Str)) = false := by decide) (he : starEach (e :: es) X.env = (false, eval e X.env) :: starEach es X.env := by rfl) (hpl : (backTo pos (starEach es X.env)).any (·.1) = false := by rfl) : CE T X (.Call (.Name x p) (e :: es) [] pos) (eCallP d ms) := fun ok W tk =>
  pe_dk D hg ha ok tk (fun σ H Q q => args_n hn apart_ok q) hdb he hpl
theorem ce_callS (D : Dk T X x n d) (hg : Gl X x) (ha : CA T X (e :: es) (eArgs ms)) (hn : ms.length = n := by rfl)
    (hdb : (x == ("__debug__" : Str)) = false := by decide) (he : starEach (e :: es) X.env = (false, eval e X.env) :: starEach es X.env := by rfl) (hpl : (backTo pos (starEach es X.env)).any (·.1) = false := by rfl) : CE T X (.Call (.Name x p) (e :: es) [] pos) (eCallS d ms) := fun ok W tk =>
  pe_dk D hg ha ok tk (fun σ H Q q => args_n hn still_ok q) hdb he hpl
theorem ce_callD0 (D : Dk T X x 0 d) (hg : Gl X x) (hdb : (x == ("__debug__" : Str)) = false := by decide) : CE T X (.Call (.Name x p) [] [] pos) (eCallD d []) := fun ok W tk =>
  pe_dk0 D hg ok tk (fun σ H Q ⟨U, m, r, h, hr, er, o⟩ => ⟨U, m, h, [], hr, .nil, o⟩) hdb
theorem ce_callP0 (D : Dk T X x 0 d) (hg : Gl X x) (hdb : (x == ("__debug__" : Str)) = false := by decide) : CE T X (.Call (.Name x p) [] [] pos) (eCallP d []) := fun ok W tk =>
  pe_dk0 D hg ok tk (fun σ H Q ⟨U, m, r, h, hr, er, o⟩ => apart_ok hr .nil o) hdb
theorem cn_callNP0 (D : Dk T X x 0 d) (hg : Gl X x) (hdb : (x == ("__debug__" : Str)) = false := by decide) : CN T X (.Call (.Name x p) [] [] pos) (eCallNP d []) := fun ok W tk =>
  pe_dk0 D hg ok tk (fun σ H Q ⟨U, m, r, h, hr, er, o⟩ => apartN_ok hr .nil o) hdb
theorem argsN_n {W : WC} {σ : L2.St} {H : Hp} {Q : VK} (hn : ms.length = n) (q : tN T W (eCallNP d ms) σ H Q) : tA T W (eArgs ms) σ H fun xs H1 => Asked T H1 W d xs Q ∧ xs.length = n := by
  obtain ⟨U, m, r, h0, hr, er, o⟩ := q
  refine ⟨U, m, r, h0, hr, er, ?_⟩
  unfold eCallNP at o
  cases e1 : eArgs ms r h0 with
  | ok vs h1 =>
    rw [e1] at o
    intro H1 U1 m1 g hr1 xs rx
    refine ⟨apartN_ok hr1 rx ?_, by rw [← rx.length, eArgs_len e1, hn]⟩
    have o : OutN T H U m W (apartN d vs h1) Q := o
    cases e2 : apartN d vs h1 with
    | ok ys h2 =>
      rw [e2] at o
      exact fun H' U' m' p zs nl => o H' U' m' p zs ⟨nl.nu, nl.nm, g.fresh nl.fr, hr.trans hr1 g nl.gr, nl.hr, nl.at_, nl.reps, nl.size⟩
    | exc _ _ =>
      rw [e2] at o
      exact fun H' U' m' cls dd g' hr' xr => o H' U' m' cls dd (hr.trans hr1 g g') hr' xr
    | stuck => rw [e2] at o; exact o
  | exc _ _ => rw [e1] at o; exact o
  | stuck => rw [e1] at o; exact o
theorem cn_callNP (D : Dk T X x n d) (hg : Gl X x) (ha : CA T X (e :: es) (eArgs ms)) (hn : ms.length = n := by rfl)
    (hdb : (x == ("__debug__" : Str)) = false := by decide) (he : starEach (e :: es) X.env = (false, eval e X.env) :: starEach es X.env := by rfl) (hpl : (backTo pos (starEach es X.env)).any (·.1) = false := by rfl) : CN T X (.Call (.Name x p) (e :: es) [] pos) (eCallNP d ms) := fun ok W tk =>
  pe_dk D hg ha ok tk (fun σ H Q q => argsN_n hn q) hdb he hpl
end
end SW

namespace SW
open PySem PySem.Spec PyProof.Rows L2

/-! ### what is never reached -/
def eStuck : Ex := fun _ _ => .stuck
def sStuck : Stm := fun _ _ => .stuck
section
variable {T : Tab} {X : Cx} {e : Expr} {st : Stmt} {pos : Pos} {x : Str} {n : Nat} {d : Dm}
theorem ce_stuck : CE T X e eStuck := fun ok W tk => ⟨fun pins s σ H Q I ⟨U, m, r, h, _, _, o⟩ => (show False from o).elim⟩
theorem ct_stuck : CT T X e eStuck := fun ok W tk => ⟨fun pins s σ H Q I ⟨U, m, r, h, _, _, o⟩ => (show False from o).elim⟩
theorem cs_stuck : CS T X st sStuck := fun ok po W tk => ⟨fun pins s σ H D I ⟨U, m, r, h, _, _, o⟩ => (show False from o).elim⟩

/-! ### constants of the text -/
/-- the name x of the text stands for v -/
structure Gk (T : Tab) (mg : Str → Option Value) (x : Str) (v : Val) : Prop where
  ok : ∃ (u : Value) (y : V), mg x = some u ∧ RelV y u ∧ ∀ H U m, Rep T H U m v y
theorem ce_glob {v : Val} (G : Gk T X.mg x v) (hg : Gl X x) (hd : (x == ("__debug__" : Str)) = false := by decide) : CE T X (.Name x pos) (eC v) := fun ok W tk => by
  obtain ⟨u, y, hm, r, k⟩ := G.ok
  exact ce_const (pe_glob hg hm r hd) k ok W tk
theorem gk_int {mg : Str → Option Value} {i : Int} {t : Tok} (h : mg x = some (.int i t)) : Gk T mg x (.int i) := ⟨_, .int i, h, ⟨t, rfl⟩, fun _ _ _ => .int i⟩
theorem gk_str {mg : Str → Option Value} {i : Str} {t : Tok} (h : mg x = some (.str i t)) : Gk T mg x (.str i) := ⟨_, .str i, h, ⟨t, rfl⟩, fun _ _ _ => .str i⟩
end
/-- a value of the text's own, read out -/
def rdK (K : PySem.W.Frag) : Nat → Value → Option Val
  | 0, _ => none
  | n + 1, v => match v with
    | .none => some .non
    | .bool b => some (.bl b)
    | .int i _ => some (.int i)
    | .str x _ => some (.str x)
    | .ref a => match K.lookup a with
      | some o => match o.cls, o.data with
        | .type c, .seq its _ => if c = "tuple" ∧ its.size ≤ 100000 then (its.toList.mapM (rdK K n)).map .tup else none
        | _, _ => none
      | none => none
    | _ => none
theorem rdK_ok {K : PySem.W.Frag} {cA : Nat → Addr} {cF : Nat → List Str} : ∀ (n : Nat) {v : Value} {t : Val}, rdK K n v = some t → ∃ y, RelV y v ∧ ∀ H U m, Rep ⟨K, cA, cF⟩ H U m t y
  | 0, v, t, e => by cases e
  | n + 1, v, t, e => by
    have ih : ∀ {its : List Value} {ts : List Val}, its.mapM (rdK K n) = some ts → ∃ ys, Vals ys its ∧ ∀ H U m, Reps ⟨K, cA, cF⟩ H U m ts ys := by
      intro its
      induction its with
      | nil => intro ts e; simp at e; subst e; exact ⟨[], .nil, fun _ _ _ => .nil⟩
      | cons i its ih2 =>
        intro ts e
        simp only [List.mapM_cons, Option.bind_eq_bind, Option.pure_def] at e
        cases q1 : rdK K n i with
        | none => rw [q1] at e; cases e
        | some t1 =>
          rw [q1] at e
          cases q2 : List.mapM (rdK K n) its with
          | none => rw [q2] at e; cases e
          | some t2 =>
            rw [q2] at e; cases e
            obtain ⟨y1, r1, k1⟩ := rdK_ok n q1
            obtain ⟨y2, r2, k2⟩ := ih2 q2
            exact ⟨y1 :: y2, .cons r1 r2, fun H U m => .cons (k1 H U m) (k2 H U m)⟩
    unfold rdK at e
    split at e
    · cases e; exact ⟨.non, rfl, fun _ _ _ => .non⟩
    · cases e; exact ⟨.bl _, rfl, fun _ _ _ => .bl _⟩
    · cases e; exact ⟨.int _, ⟨_, rfl⟩, fun _ _ _ => .int _⟩
    · cases e; exact ⟨.str _, ⟨_, rfl⟩, fun _ _ _ => .str _⟩
    · rename_i a
      split at e
      · rename_i o ho
        split at e
        · rename_i c its k hc hd
          split at e
          · rename_i hz
            cases q : its.toList.mapM (rdK K n) with
            | none => rw [q] at e; cases e
            | some ts =>
              rw [q] at e; cases e
              obtain ⟨ys, r, k1⟩ := ih q
              have hs : its.size ≤ sizeLine := Nat.le_trans hz.2 (by rw [sizeLine_eq]; decide)
              refine ⟨.ref a, rfl, fun H U m => .tup ?_ (.inr ⟨o, its, k, ho, by rw [hc, hz.1], hd, hs, r⟩) (k1 H U m)⟩
              rw [(k1 H U m).length, r.length]
              simpa using hs
          · cases e
        · cases e
      · cases e
    · cases e
theorem gk_rd {K : PySem.W.Frag} {cA : Nat → Addr} {cF : Nat → List Str} {mg : Str → Option Value} {x : Str} {u : Value} {t : Val} (hm : mg x = some u) (n : Nat) (e : rdK K n u = some t) : Gk ⟨K, cA, cF⟩ mg x t := by
  obtain ⟨y, r, k⟩ := rdK_ok n e
  exact ⟨u, y, hm, r, k⟩
/-! ### defs as the others know them -/
structure Df (P : Program) (w : World) (K : PySem.W.Frag) (mg : Str → Option Value) (base : Heap) (T : Tab) (k : Nat) (x : Str) (n : Nat) (d : Dm) : Prop where
  ok : ∃ (f : Addr) (fd : FuncData) (ps : List Str), ps.length = n ∧ FnOk P w K mg base (L2.CX P w) k f fd ps (spOf T d n) ∧ mg x = some (.ref f) ∧ PySem.W.keepIn K (.ref f) = true ∧ Binds K fd ps []
theorem Df.dk {T : Tab} {X : Cx} {k : Nat} {x : Str} {n : Nat} {d : Dm} (D : Df X.prog X.w X.K X.mg X.base T k x n d) (hr : Room k X.A) : Dk T X x n d := by
  obtain ⟨f, fd, ps, h1, h2, h3, h4, h5⟩ := D.ok
  exact ⟨k, f, fd, ps, h1, h2, hr, h3, h4, h5⟩
section
variable {T : Tab} {P : Program} {w : World} {K : PySem.W.Frag} {mg : Str → Option Value} {base : Heap}
theorem Df.mk' {x qual : Str} {st : Stmt} {f : Addr} {fd : FuncData} {ps : List Str} {k : Nat} {d : Dm} (F : Fun K x qual st f fd) (G : FnOk P w K mg base (L2.CX P w) k f fd ps (spOf T d ps.length)) (hm : mg x = some (.ref f)) (hb : Binds K fd ps []) : Df P w K mg base T k x ps.length d :=
  ⟨f, fd, ps, rfl, G, hm, F.kp, hb⟩
/-- a def that calls itself: d n with n turns to go -/
theorem rec_ok {f : Addr} {fd : FuncData} {ps : List Str} {k : Nat} {d : Nat → Dm} (h0 : ∀ vs h, d 0 vs h = .stuck) (hs : ∀ n, FnOk P w K mg base (L2.CX P w) (k + n) f fd ps (spOf T (d n) ps.length) → FnOk P w K mg base (L2.CX P w) (k + (n + 1)) f fd ps (spOf T (d (n + 1)) ps.length)) :
    ∀ n, FnOk P w K mg base (L2.CX P w) (k + n) f fd ps (spOf T (d n) ps.length)
  | 0 => ⟨fun vs H Q E ⟨_, _, _, _, _, _, e, _⟩ => e, fun A outer s H args us vs Q E _ _ _ _ ⟨U, m, h, ws, _, _, _, o⟩ => by rw [h0] at o; exact (show False from o).elim⟩
  | n + 1 => hs n (rec_ok h0 hs n)
end

/-! ### the law -/
theorem ints_rep {T : Tab} {H : Hp} {U : Addr → Prop} {m : List (Option Addr)} : ∀ ns : List Int, Reps T H U m (ns.map Val.int) (ns.map V.int)
  | [] => .nil
  | n :: ns => .cons (.int n) (ints_rep ns)
theorem law_sp {K : PySem.W.Frag} {cA : Nat → Addr} {cF : Nat → List Str} {d : Dm} (hL : ∀ ns : List Int, ns.length ≤ 63 → ∃ h', d [.ins 0 (ns.map Val.int)] [] = .ok (.bl true) h') {H : Hp} {a : Addr} {ns : List Int} (hl : ns.length ≤ 63) (hS : SqL K H a (ns.map V.int)) :
    spOf ⟨K, cA, cF⟩ d 1 [.ref a] H (fun v _ => v = .bl true) fun _ _ _ => False := by
  obtain ⟨h', e⟩ := hL ns hl
  refine ⟨fun _ => False, [], [], [.ins 0 (ns.map Val.int)], HR.none H, .cons (.scr (by rw [List.length_map]; exact big_line (Nat.le_trans hl (by decide))) (hS.imp (fun z => ⟨z, fun y => y⟩) id) (ints_rep ns)) .nil, rfl, ?_⟩
  rw [e]
  intro H' U' m' g hr x rx
  cases rx; rfl
theorem law_cx {P : Program} (w : World) (H : Hp) (s : Shared) (e : Value) (s' : Shared) (c : L2.CX P w [] H s (fun _ _ _ => False) e s') : False := by
  obtain ⟨_, _, _, _, _, _, _, _, _, _, _, _, q⟩ := c
  exact q
end SW

namespace SW
open PySem PySem.Spec PyProof.Rows L2

/-! ### names that are built in -/
theorem bb_len : bootBuiltins "len" = some (.builtin "len") := by decide +kernel
theorem bb_abs : bootBuiltins "abs" = some (.builtin "abs") := by decide +kernel
theorem bb_max : bootBuiltins "max" = some (.builtin "max") := by decide +kernel
theorem bb_min : bootBuiltins "min" = some (.builtin "min") := by decide +kernel
theorem bb_all : bootBuiltins "all" = some (.builtin "all") := by decide +kernel
theorem bb_any : bootBuiltins "any" = some (.builtin "any") := by decide +kernel
theorem bb_sum : bootBuiltins "sum" = some (.builtin "sum") := by decide +kernel
theorem bb_sorted : bootBuiltins "sorted" = some (.builtin "sorted") := by decide +kernel
theorem bb_repr : bootBuiltins "repr" = some (.builtin "repr") := by decide +kernel
theorem bb_isinstance : bootBuiltins "isinstance" = some (.builtin "isinstance") := by decide +kernel
theorem bb_int : bootBuiltins "int" = some (.type "int") := by decide +kernel
theorem bb_bool : bootBuiltins "bool" = some (.type "bool") := by decide +kernel
theorem bb_str : bootBuiltins "str" = some (.type "str") := by decide +kernel
theorem bb_tuple : bootBuiltins "tuple" = some (.type "tuple") := by decide +kernel
theorem bb_list : bootBuiltins "list" = some (.type "list") := by decide +kernel
theorem bb_dict : bootBuiltins "dict" = some (.type "dict") := by decide +kernel
theorem bb_set : bootBuiltins "set" = some (.type "set") := by decide +kernel

/-! ### o[i] = v -/
def gPut (h : PH) (x y v : Val) : Option PH := match x with
  | .ref l => match h[l]? with
    | some (.lst xs) => match y with
      | .int k => (ixN xs.length k).map fun j => h.set l (.lst (xs.set j v))
      | _ => none
    | _ => none
  | _ => none
def gStore (o i : Ex) : TGm := fun v r h => (o r h).bind fun x h1 => (i r h1).bind fun y h2 => match gPut h2 x y v with
  | some h3 => .ok r h3
  | none => .stuck
section
variable {T : Tab} {X : Cx} {pos : Pos} {o i : Expr} {mo mi : Ex}
theorem put_ok {W : WC} {H : Hp} {U : Addr → Prop} {m : List (Option Addr)} {h : PH} {x y v : Val} {xv yv vv : V} {r : Ev} {Kq : Ev → PH → Hp → (Addr → Prop) → List (Option Addr) → Prop} {Q : Hp → Prop} (hr : HR T H U m h) (rx : Rep T H U m x xv) (ry : Rep T H U m y yv) (rv : Rep T H U m v vv)
    (q : Out T H U m W (match gPut h x y v with | some h3 => Res.ok r h3 | none => .stuck) Kq) (k : ∀ H' h', Gr H U m H' U m → HR T H' U m h' → Kq r h' H' U m → Q H') : rSetL xv yv vv H Q := by
  cases e : gPut h x y v with
  | none => rw [e] at q; exact (show False from q).elim
  | some h3 =>
    rw [e] at q
    unfold gPut at e
    split at e
    · rename_i l
      split at e
      · rename_i xs ex
        split at e
        · rename_i kk
          cases ej : ixN xs.length kk with
          | none => rw [ej] at e; cases e
          | some j =>
            rw [ej] at e; cases e
            rcases hr.obj l _ ex with ⟨_, e0⟩ | ⟨a, e1, xs', ea, rs, hz⟩
            · cases e0
            · cases rx with
              | ref hl er =>
                obtain rfl := er a e1
                cases ry
                have g : Gr H U m (upd H a (.lst (xs'.set j vv))) U m := Gr.write ⟨l, e1⟩
                have hr' := hr.write (o := .lst (xs'.set j vv)) (v := .lst (xs.set j v)) e1 ⟨_, upd_same, hr.reps g (rs.set rv j), by rw [List.length_set]; exact hz⟩
                refine ⟨a, xs', kk, j, rfl, rfl, ea, by rw [← rs.length]; exact ej, k _ _ g hr' (q _ U m g hr')⟩
        · cases e
      · cases e
    · cases e
theorem cg_store (ho : CE T X o mo) (hi : CE T X i mi)
    (ha : ∀ v, assign (.Subscript o i pos) X.env v = (do
      let ov ← holding [v] (eval o X.env)
      let iv ← holding [v, ov] (eval i X.env)
      standAt pos
      holding [v, ov, iv] (setItem ov iv v)
      release [v, ov, iv] []) := by intro _; rfl) : CG T X (.Subscript o i pos) (gStore mo mi) [] := fun ok W tk =>
  pg_imp (pg_sub (ho ok W tk) (hi ok W tk) set_list ha) fun v σ H Q ⟨U, m, r, h, vm, hr, er, rv, q⟩ => by
    refine tE_then hr er q fun x H1 U1 m1 h1 xm g1 hr1 er1 rx q1 => ?_
    refine tE_then hr1 er1 q1 fun y H2 U2 m2 h2 ym g2 hr2 er2 ry q2 => ?_
    exact put_ok hr2 (hr1.rep g2 rx) ry (hr1.rep g2 (hr.rep g1 rv)) q2 fun H' h' g hr' kq => kq σ (hr2.env g er2) .refl
end

/-! ### y = [..] on one line -/
section
variable {T : Tab} {X : Cx} {elt tg iter tg1 iter1 : Expr} {ifs ifs1 : List Expr} {scope : Scope} {pos spos py : Pos} {ms ms1 : Ev → SM Src} {g g1 : TGm} {mt mt1 : Option Ex} {me : Ex} {vs vs1 : List Nat} {y : Str}
/-- how the new list is kept: eFrz, eLoc -/
def Kept (kp : (Ev → SM (List Val)) → Ex) : Prop := ∀ {T : Tab} {W : WC} {mn : Ev → SM (List Val)} {σ : L2.St} {H : Hp} {Q : VK}, tE T W (kp mn) σ H Q → tN T W mn σ H Q
theorem kept_frz : Kept eFrz := fun q => frz_run q
theorem kept_loc : Kept eLoc := fun q => loc_run q
theorem asg_run {W : WC} {kp : (Ev → SM (List Val)) → Ex} (hk : Kept kp) {mn : Ev → SM (List Val)} {i : Nat} {D : Ends} {σ : L2.St} {H : Hp} (q : tS T W (sAsg (kp mn) (gSet i)) D σ H) : tN T W mn σ H fun x H1 => gName i x σ H1 D.nx := by
  obtain ⟨U, m, r, h, hr, er, o⟩ := q
  refine hk (tE_then hr er o fun y H1 U1 m1 h1 v g1 hr1 er1 ry o1 => ?_)
  exact o1 H1 U1 m1 .refl hr1 _ (er1.set ry)
theorem cs_setLc {kp : (Ev → SM (List Val)) → Ex} (hk : Kept kp) (i : Nat) (own : List (Str × Nat)) (hi : CI T X tg iter ms) (hg : ∀ (s : Shared) (H : Hp) (C : Addr) (cl : List (Str × Addr)) (fp : List Addr), CG T (X.blk s H scope (compEnvC scope cl C X.env) fp) tg g vs)
    (ht : ∀ (s : Shared) (H : Hp) (C : Addr) (cl : List (Str × Addr)) (fp : List Addr), CTs T (X.blk s H scope (compEnvC scope cl C X.env) fp) ifs mt)
    (he : ∀ (s : Shared) (H : Hp) (C : Addr) (cl : List (Str × Addr)) (fp : List Addr), CE T (X.blk s H scope (compEnvC scope cl C X.env) fp) elt me)
    (hy : X.N[i]? = some y := by rfl) (hyl : X.env.scope.names.lookup y = some .local := by rfl)
    (hsw : swapsWith (.ListComp elt [⟨tg, iter, ifs, 0⟩] scope pos) (some (.Name y py)) spos.line X.env = pure true := by exact sw_true rfl rfl rfl (by decide +kernel))
    (ok : BlkOk X.N X.env.scope scope own := by exact blkOk_by (by rfl)) (hv : ∀ i ∈ vs, i ∈ own.map (·.2) := by decide)
    (hs : ∀ x, foldedSetIterable iter X.env x = pure x := by intro _; rfl) : CS T X (.Assign [.Name y py] (.ListComp elt [⟨tg, iter, ifs, 0⟩] scope pos) spos) (sAsg (kp (eComp ms g mt me (own.map (·.2)))) (gSet i)) := fun xo po W tk =>
  have bo : ∀ (s : Shared) (H : Hp) (C : Addr) (cl : List (Str × Addr)) (fp : List Addr), XOk T (X.blk s H scope (compEnvC scope cl C X.env) fp) := fun _ _ _ _ _ => ⟨xo.k, xo.calm, xo.nd, xo.un, xo.hd⟩
  ps_imp (ps_setLc xo.calm xo.nd hy hyl hsw (hi xo W tk) ok (fun s H C cl fp => hg s H C cl fp (bo ..) W0 (Tk.none _)) (fun s H C cl fp => ht s H C cl fp (bo ..) W0 (Tk.none _)) (fun s H C cl fp => he s H C cl fp (bo ..) W0 (Tk.none _)) hs) fun D σ H q => comp_run hv (asg_run hk q)
theorem cs_setLc2 {kp : (Ev → SM (List Val)) → Ex} (hk : Kept kp) (i : Nat) (own : List (Str × Nat)) (own1 : List Nat) (hi : CI T X tg iter ms) (hg : ∀ (s : Shared) (H : Hp) (C : Addr) (cl : List (Str × Addr)) (fp : List Addr), CG T (X.blk s H scope (compEnvC scope cl C X.env) fp) tg g vs)
    (ht : ∀ (s : Shared) (H : Hp) (C : Addr) (cl : List (Str × Addr)) (fp : List Addr), CTs T (X.blk s H scope (compEnvC scope cl C X.env) fp) ifs mt)
    (hi1 : ∀ (s : Shared) (H : Hp) (C : Addr) (cl : List (Str × Addr)) (fp : List Addr), CI T (X.blk s H scope (compEnvC scope cl C X.env) fp) tg1 iter1 ms1)
    (hg1 : ∀ (s : Shared) (H : Hp) (C : Addr) (cl : List (Str × Addr)) (fp : List Addr), CG T (X.blk s H scope (compEnvC scope cl C X.env) fp) tg1 g1 vs1)
    (ht1 : ∀ (s : Shared) (H : Hp) (C : Addr) (cl : List (Str × Addr)) (fp : List Addr), CTs T (X.blk s H scope (compEnvC scope cl C X.env) fp) ifs1 mt1)
    (he : ∀ (s : Shared) (H : Hp) (C : Addr) (cl : List (Str × Addr)) (fp : List Addr), CE T (X.blk s H scope (compEnvC scope cl C X.env) fp) elt me)
    (hy : X.N[i]? = some y := by rfl) (hyl : X.env.scope.names.lookup y = some .local := by rfl)
    (hsw : swapsWith (.ListComp elt [⟨tg, iter, ifs, 0⟩, ⟨tg1, iter1, ifs1, 0⟩] scope pos) (some (.Name y py)) spos.line X.env = pure true := by exact sw_true rfl rfl rfl (by decide +kernel))
    (ok : BlkOk X.N X.env.scope scope own := by exact blkOk_by (by rfl)) (hv : ∀ i ∈ vs, i ∈ own.map (·.2) := by decide) (hv1 : ∀ i ∈ vs1, i ∈ own1 := by decide) (hv2 : ∀ i ∈ own1, i ∈ own.map (·.2) := by decide)
    (hs : ∀ x, foldedSetIterable iter X.env x = pure x := by intro _; rfl) (hs1 : ∀ env x, foldedSetIterable iter1 env x = pure x := by intro _ _; rfl) :
    CS T X (.Assign [.Name y py] (.ListComp elt [⟨tg, iter, ifs, 0⟩, ⟨tg1, iter1, ifs1, 0⟩] scope pos) spos) (sAsg (kp (eComp2 ms g mt ms1 g1 mt1 me (own.map (·.2)) own1)) (gSet i)) := fun xo po W tk =>
  have bo : ∀ (s : Shared) (H : Hp) (C : Addr) (cl : List (Str × Addr)) (fp : List Addr), XOk T (X.blk s H scope (compEnvC scope cl C X.env) fp) := fun _ _ _ _ _ => ⟨xo.k, xo.calm, xo.nd, xo.un, xo.hd⟩
  ps_imp (ps_setLc2 xo.calm xo.nd hy hyl hsw (hi xo W tk) ok hv2 (fun s H C cl fp => hg s H C cl fp (bo ..) W0 (Tk.none _)) (fun s H C cl fp => ht s H C cl fp (bo ..) W0 (Tk.none _)) (fun s H C cl fp => hi1 s H C cl fp (bo ..) W0 (Tk.none _)) (fun s H C cl fp => hg1 s H C cl fp (bo ..) W0 (Tk.none _)) (fun s H C cl fp => ht1 s H C cl fp (bo ..) W0 (Tk.none _)) (fun s H C cl fp => he s H C cl fp (bo ..) W0 (Tk.none _)) hs hs1) fun D σ H q => comp2_run hv hv1 (asg_run hk q)
end

/-! ### a constant's place -/
/-- the constant tuple x of the text stands for vs, and it is an object of the text's own -/
structure GkT (T : Tab) (mg : Str → Option Value) (x : Str) (vs : List Val) : Prop where
  ok : ∃ (a : Addr) (o : Obj), mg x = some (.ref a) ∧ T.K.lookup a = some o ∧ o.cls = .type "tuple" ∧ o.dict = none ∧ ∀ H U m, Rep T H U m (.tup vs) (.ref a)
theorem GkT.gk {T : Tab} {mg : Str → Option Value} {x : Str} {vs : List Val} (G : GkT T mg x vs) : Gk T mg x (.tup vs) := by
  obtain ⟨a, o, h1, h2, h3, h4, h5⟩ := G.ok
  exact ⟨_, .ref a, h1, rfl, h5⟩
theorem gkT_rd {K : PySem.W.Frag} {cA : Nat → Addr} {cF : Nat → List Str} {mg : Str → Option Value} {x : Str} {a : Addr} {o : Obj} {vs : List Val} (hm : mg x = some (.ref a)) (lk : K.lookup a = some o) (hc : o.cls = .type "tuple") (hd : o.dict = none) (n : Nat) (e : rdK K n (.ref a) = some (.tup vs)) : GkT ⟨K, cA, cF⟩ mg x vs := by
  obtain ⟨y, r, k1⟩ := rdK_ok (cA := cA) (cF := cF) n e
  refine ⟨a, o, hm, lk, hc, hd, fun H U m => ?_⟩
  have q := k1 H U m
  cases q with
  | tup h0 h1 h2 =>
    have e2 : Value.ref a = Value.ref _ := r
    cases e2
    exact .tup h0 h1 h2
def idxB (p : Val → Bool) : List Val → Option Nat
  | [] => none
  | v :: vs => if p v then some 0 else (idxB p vs).map (· + 1)
def gIndexC (vs : List Val) (h : PH) (y : Val) : Option Val := if dats vs 60 && dat (view h y) 60 then (idxB (fun z => veq z (view h y)) vs).map fun j => .int j else none
theorem idxB_spec {p : Val → Bool} : ∀ {vs : List Val} {j : Nat}, idxB p vs = some j → (∃ v, vs[j]? = some v ∧ p v = true) ∧ ∀ m v, m < j → vs[m]? = some v → p v = false
  | v :: vs, j, e => by
    unfold idxB at e
    split at e
    · rename_i h
      cases e
      exact ⟨⟨v, rfl, h⟩, fun m w hm _ => by omega⟩
    · rename_i h
      cases q : idxB p vs with
      | none => rw [q] at e; cases e
      | some k =>
        rw [q] at e; cases e
        obtain ⟨⟨w, h1, h2⟩, h3⟩ := idxB_spec q
        refine ⟨⟨w, by simpa using h1, h2⟩, fun m w hm hw => ?_⟩
        cases m with
        | zero => simp at hw; subst hw; simpa using h
        | succ m => exact h3 m w (by have hm : m + 1 < k + 1 := hm; omega) (by simpa using hw)
def rIdxC (T : Tab) (vs : List Val) : V → List V → Hp → VK → Prop := fun x xs H Q => ∃ U m h a ys y yv j, x = .ref a ∧ xs = [yv] ∧ HR T H U m h ∧ Reps T H U m vs ys ∧ SqT T.K H a ys ∧ Rep T H U m y yv ∧ dats vs 60 = true ∧ dat (view h y) 60 = true ∧
  idxB (fun z => veq z (view h y)) vs = some j ∧ Q (.int (j : Nat)) H
section
variable {T : Tab} {X : Cx}
theorem dats_get : ∀ {vs : List Val} {n m : Nat} {v : Val}, dats vs n = true → vs[m]? = some v → dat v n = true
  | w :: vs, n, 0, v, h, e => by
    simp only [dats, Bool.and_eq_true] at h
    simp at e; subst e; exact h.1
  | w :: vs, n, m + 1, v, h, e => by
    simp only [dats, Bool.and_eq_true] at h
    exact dats_get (m := m) h.2 (by simpa using e)
theorem mt_idxC (ok : XOk T X) (vs : List Val) : MtR X "tuple.index" (rIdxC T vs) := by
  intro pins s σ H x xs v us Q I rx rs h
  obtain ⟨U, m, hh, a, ys, y, yv, j, rfl, rfl, hr, rys, hq, ry, d1, d2, ej, q⟩ := h
  cases rx
  cases rs with
  | cons ru rt =>
    rename_i u us'
    cases rt
    obtain ⟨its, r, pl, hz⟩ := I.tuple (by rw [ok.k]; exact hq)
    obtain ⟨⟨cls, dd, dt, sl⟩, ho, hc, n, hd⟩ := pl
    simp only at hc hd
    subst hc
    subst hd
    obtain ⟨bs, q2⟩ := reads_of ok.k I hr ry ru d2
    have p2 := dat_plain _ _ d2
    have hl : its.toArray.size = vs.length := by rw [List.size_toArray, ← r.length, rys.length]
    obtain ⟨⟨w, ew, hw⟩, hno⟩ := idxB_spec ej
    have hj : j < its.toArray.size := by rw [hl]; exact (List.getElem?_eq_some_iff.mp ew).1
    have hu := ok.un
    have at_ : ∀ (k : Nat) (hk : k < its.toArray.size), ∃ z, vs[k]? = some z ∧ SeqAt.EqAt X.A.in1 s its.toArray[k] u (veq z (view hh y)) := fun k hk => by
      have hk' : k < vs.length := by rw [← hl]; exact hk
      obtain ⟨yk, e1, rk⟩ := rys.get (i := k) (List.getElem?_eq_getElem hk')
      obtain ⟨ik, e2, rik⟩ := r.get e1
      have dk := dats_get d1 (List.getElem?_eq_getElem hk')
      refine ⟨vs[k], List.getElem?_eq_getElem hk', ?_⟩
      have ei : its.toArray[k] = ik := by
        have := (List.getElem?_eq_some_iff.mp e2).2
        simpa using this
      rw [ei]
      obtain ⟨as, q1⟩ := Dp.reads I _ _ _ (by rw [ok.k]; exact Rep.dp _ _ _ dk rk) rik
      have p1 := dat_plain _ _ dk
      rw [← veq_ok _ _ _ _ dk d2]
      refine PySem.SeqAt.eqAt_plain _ _ _ _ _ _ _ _ q1 q2 p1.1 p2.1 ?_
      have hd' : min (toD vs[k]).depth (toD (view hh y)).depth ≤ 60 := min_dep p1.2
      show X.A.units + 1 + _ < cLine
      omega
    refine call_meets PySem.F.slot_tuple_index ⟨_, ho, rfl⟩ PySem.F.entry_tuple_index (PySem.F.args_tuple_index_2 _ _)
      (PySem.SeqAt.tuple_index2_found a its.toArray n dd sl u (fun k => match vs[k]? with | some z => veq z (view hh y) | none => false) j hj (Nat.zero_le _) hj ?_ ?_) ⟨ho, fun k hk => ?_, ⟨.int (j : Nat), H, I.tok _, ⟨_, rfl⟩, q⟩⟩
    · rw [ew]; exact hw
    · intro k hk _ hkj
      have hk' : k < vs.length := by rw [← hl]; exact hk
      rw [List.getElem?_eq_getElem hk']
      exact hno k _ hkj (List.getElem?_eq_getElem hk')
    · obtain ⟨z, ez, hz'⟩ := at_ k hk
      rw [ez]; exact hz'
theorem ce_idxC {x : Str} {e : Expr} {me : Ex} {vs : List Val} {p apos cpos : Pos} (G : GkT T X.mg x vs) (hg : Gl X x) (he : CE T X e me) (hd : (x == ("__debug__" : Str)) = false := by decide)
    (hbase : attributeBase (.Name x p) "index" X.env (eval (.Name x p) X.env) = eval (.Name x p) X.env := by rfl)
    (hfew : ((backTo cpos (starEach [e] X.env)).all (fun x => !x.1) && (backToKw cpos (keywordEach [] X.env)).all (fun x => x.1.isSome)
      && decide ([e].length + ([] : List Keyword).length + (if ([] : List Keyword).isEmpty then 0 else 1) < 30)) = true := by rfl)
    (hline : (apos.endLine == cpos.line) = true := by rfl) (hs : starEach [e] X.env = (false, eval e X.env) :: starEach [] X.env := by rfl) (hplain : (backTo cpos (starEach [] X.env)).any (·.1) = false := by rfl) :
    CE T X (.Call (.Attribute (.Name x p) "index" apos) [e] [] cpos) (eUn (gIndexC vs) me) := fun ok W tk => by
  obtain ⟨a, o, h1, h2, h3, h4, h5⟩ := G.ok
  refine pe_imp (pe_bm PySem.F.plainAttrs_tuple PySem.F.slot_tuple_index PySem.F.type_tuple_index (mt_idxC ok vs) (pe_glob hg h1 (v := .ref a) rfl hd) (pa_cons (he ok W tk) pa_nil hs) hbase hfew hline hs hplain) fun σ H Q ⟨U, m, r, h, hr, er, oo⟩ => ?_
  refine ⟨.inr (.inl ⟨rfl, o, by rw [ok.k]; exact h2, h3, h4⟩), ?_⟩
  refine tE_then hr er oo fun y H1 U1 m1 hh1 v g1 hr1 er1 ry o1 => ?_
  obtain ⟨z, ez⟩ := Out.lift_some o1
  have e0 := ez
  unfold gIndexC at ez
  split at ez
  · rename_i hc
    rw [Bool.and_eq_true] at hc
    cases ej : idxB (fun z => veq z (view hh1 v)) vs with
    | none => rw [ej] at ez; cases ez
    | some j =>
      rw [ej] at ez; cases ez
      cases h5 H1 U1 m1 with
      | tup z0 z1 z2 => exact ⟨U1, m1, hh1, a, _, v, y, j, rfl, rfl, hr1, z2, z1, ry, hc.1, hc.2, ej, Out.pure hr1 o1 Ext.rfl' e0 _ (.int _)⟩
  · cases ez
end
end SW

namespace SW
open PySem

/-! ### runs, by simp -/
theorem bind_ite {α β : Type} {c : Prop} [Decidable c] (a b : Res α) (f : α → SM β) : (if c then a else b).bind f = if c then a.bind f else b.bind f := by split <;> rfl
/-- so that simp keeps the proof -/
theorem hide {α : Sort _} {a b : α} (h : a = b) : a = b := h
def fin (r : Res Fl) : Res Val := r.bind fun f h1 => match f with
  | .nx _ => .ok .non h1
  | .rt v => .ok v h1
  | _ => .stuck
theorem defRun_eq (n : Nat) (ms : Stm) (vs : List Val) (h : PH) : defRun n ms vs h = fin (ms (vs.map some ++ List.replicate (n - vs.length) none) h) := rfl
section
variable {α β : Type} {r : Ev} {h : PH}
@[simp] theorem x_bok (a : α) (f : α → SM β) : (Res.ok a h).bind f = f a h := hide rfl
@[simp] theorem x_bex (e : Val) (f : α → SM β) : (Res.exc e h : Res α).bind f = .exc e h := hide rfl
@[simp] theorem x_bst (f : α → SM β) : (Res.stuck : Res α).bind f = .stuck := hide rfl
@[simp] theorem x_nok (a : α) : (Res.ok a h).noexc = .ok a h := hide rfl
@[simp] theorem x_lift (a : α) : lift (some a) h = .ok a h := hide rfl
@[simp] theorem x_var (i : Nat) : eVar i r h = lift (r.getD i none) h := hide rfl
@[simp] theorem x_c (v : Val) : eC v r h = .ok v h := hide rfl
@[simp] theorem x_bin (g : PH → Val → Val → Option Val) (a b : Ex) : eBin g a b r h = (a r h).bind fun x h1 => (b r h1).bind fun y h2 => lift (g h2 x y) h2 := hide rfl
@[simp] theorem x_un (g : PH → Val → Option Val) (a : Ex) : eUn g a r h = (a r h).bind fun x h1 => lift (g h1 x) h1 := hide rfl
@[simp] theorem x_args0 : eArgs [] r h = .ok [] h := hide rfl
@[simp] theorem x_args1 (e : Ex) (es : List Ex) : eArgs (e :: es) r h = (e r h).bind fun v h1 => (eArgs es r h1).bind fun vs h2 => .ok (v :: vs) h2 := hide rfl
@[simp] theorem x_tup (ms : List Ex) : eTup ms r h = (eArgs ms r h).bind fun vs h1 => .ok (.tup vs) h1 := hide rfl
@[simp] theorem x_frz (mn : Ev → SM (List Val)) : eFrz mn r h = (mn r h).bind fun vs h1 => .ok (.lst vs) h1 := hide rfl
@[simp] theorem x_loc (mn : Ev → SM (List Val)) : eLoc mn r h = (mn r h).bind fun vs h1 => .ok (.ref h1.length) (h1 ++ [.lst vs]) := hide rfl
@[simp] theorem x_and (a b : Ex) : eAnd a b r h = (a r h).bind fun x h1 => match x with | .bl true => b r h1 | .bl false => .ok (.bl false) h1 | _ => .stuck := hide rfl
@[simp] theorem x_or (a b : Ex) : eOr a b r h = (a r h).bind fun x h1 => match x with | .bl true => .ok (.bl true) h1 | .bl false => b r h1 | _ => .stuck := hide rfl
@[simp] theorem x_not (a : Ex) : eNot a r h = (a r h).bind fun x h1 => match x with | .bl b => .ok (.bl (!b)) h1 | _ => .stuck := hide rfl
@[simp] theorem x_if (c a b : Ex) : eIf c a b r h = ((c r h).bind truthM).bind fun k h1 => if k then a r h1 else b r h1 := hide rfl
@[simp] theorem x_chain (g g' : PH → Val → Val → Option Val) (a b c : Ex) : eChain g g' a b c r h = (a r h).bind fun x h1 => (b r h1).bind fun y h2 => (lift (g h2 x y) h2).bind fun z h3 => match z with
  | .bl true => (c r h3).bind fun w h4 => lift (g' h4 y w) h4
  | .bl false => .ok (.bl false) h3
  | _ => .stuck := hide rfl
@[simp] theorem x_kand (a b : Ex) : kAnd a b r h = ((a r h).bind truthM).bind fun k h1 => if k then b r h1 else .ok (.bl false) h1 := hide rfl
@[simp] theorem x_kor (a b : Ex) : kOr a b r h = ((a r h).bind truthM).bind fun k h1 => if k then .ok (.bl true) h1 else b r h1 := hide rfl
@[simp] theorem x_knot (a : Ex) : kNot a r h = ((a r h).bind truthM).bind fun k h1 => .ok (.bl (!k)) h1 := hide rfl
@[simp] theorem x_truthM (b : Bool) : truthM (.bl b) h = .ok b h := hide rfl
@[simp] theorem x_call (g : PH → List Val → Option Val) (ms : List Ex) : eCall g ms r h = (eArgs ms r h).bind fun vs h1 => lift (g h1 vs) h1 := hide rfl
@[simp] theorem x_callN (g : PH → List Val → Option (List Val)) (ms : List Ex) : eCallN g ms r h = (eArgs ms r h).bind fun vs h1 => lift (g h1 vs) h1 := hide rfl
@[simp] theorem x_callD (d : Dm) (ms : List Ex) : eCallD d ms r h = (eArgs ms r h).bind fun vs h1 => d vs h1 := hide rfl
@[simp] theorem x_callP (d : Dm) (ms : List Ex) : eCallP d ms r h = (eArgs ms r h).bind fun vs h1 => apart d vs h1 := hide rfl
@[simp] theorem x_callS (d : Dm) (ms : List Ex) : eCallS d ms r h = (eArgs ms r h).bind fun vs h1 => still d vs h1 := hide rfl
@[simp] theorem x_callNP (d : Dm) (ms : List Ex) : eCallNP d ms r h = (eArgs ms r h).bind fun vs h1 => apartN d vs h1 := hide rfl
@[simp] theorem x_slc {α : Type} (g : PH → Val → Option Int → Option Int → Option α) (a : Ex) (lo hi : Option Ex) : eSlc g a lo hi r h = (a r h).bind fun x h1 => (ePart lo r h1).bind fun l h2 => (ePart hi r h2).bind fun u h3 => lift (g h3 x l u) h3 := hide rfl
@[simp] theorem x_part0 : ePart none r h = .ok none h := hide rfl
@[simp] theorem x_part1 (e : Ex) : ePart (some e) r h = (e r h).bind fun v h1 => lift (match v with | .int i => some (some i) | _ => none) h1 := hide rfl
@[simp] theorem x_snil : sNil r h = .ok (.nx r) h := hide rfl
@[simp] theorem x_sseq (a b : Stm) : sSeq a b r h = (a r h).bind fun f h1 => match f with | .nx r1 => b r1 h1 | f => .ok f h1 := hide rfl
@[simp] theorem x_sexpr (e : Ex) : sExpr e r h = (e r h).bind fun _ h1 => .ok (.nx r) h1 := hide rfl
@[simp] theorem x_sret (e : Ex) : sRet e r h = (e r h).bind fun v h1 => .ok (.rt v) h1 := hide rfl
@[simp] theorem x_sretN : sRetN r h = .ok (.rt .non) h := hide rfl
@[simp] theorem x_sif (c : Ex) (a b : Stm) : sIf c a b r h = ((c r h).bind truthM).bind fun k h1 => if k then a r h1 else b r h1 := hide rfl
@[simp] theorem x_sasg (e : Ex) (g : TGm) : sAsg e g r h = (e r h).bind fun v h1 => (g v r h1).bind fun r1 h2 => .ok (.nx r1) h2 := hide rfl
@[simp] theorem x_gset (i : Nat) (v : Val) : gSet i v r h = .ok (r.set i (some v)) h := hide rfl
@[simp] theorem x_gnil : gsNil [] r h = .ok r h := hide rfl
@[simp] theorem x_gcons (g : TGm) (gs : TGsm) (v : Val) (vs : List Val) : gsCons g gs (v :: vs) r h = (g v r h).bind fun r1 h1 => gs vs r1 h1 := hide rfl
@[simp] theorem x_gunp (n : Nat) (gs : TGsm) (xs : List Val) : gUnp n gs (.tup xs) r h = if xs.length = n then gs xs r h else .stuck := hide rfl
@[simp] theorem x_spar (i j : Nat) (ms : List Ex) : sPar i j ms r h = (eArgs ms r h).bind fun vs h1 => match vs with | [v, w] => .ok (.nx ((r.set i (some v)).set j (some w))) h1 | _ => .stuck := hide rfl
@[simp] theorem x_spar3 (i j l : Nat) (ms : List Ex) : sPar3 i j l ms r h = (eArgs ms r h).bind fun vs h1 => match vs with | [u, v, w] => .ok (.nx (((r.set i (some u)).set j (some v)).set l (some w))) h1 | _ => .stuck := hide rfl
@[simp] theorem x_sfor (ms : Ev → SM Src) (g : TGm) (b : Stm) : sFor ms g b r h = (ms r h).bind fun src h1 => forLoop src g b src.n 0 r h1 := hide rfl
@[simp] theorem x_seq1 (k : Val → SM Src) (me : Ex) : sSeq1 k me r h = (me r h).bind k := hide rfl
@[simp] theorem x_srng (ms : List Ex) : sRng ms r h = (eArgs ms r h).bind srcR := hide rfl
@[simp] theorem x_szip (ms : List Ex) : sZip ms r h = (eArgs ms r h).bind fun vs h1 => match vs with | [v, w] => srcZip v w h1 | _ => .stuck := hide rfl
@[simp] theorem x_comp (ms : Ev → SM Src) (g : TGm) (mt : Option Ex) (elt : Ex) (own : List Nat) : eComp ms g mt elt own r h = (ms r h).bind fun src h1 => compLoop src g mt (eOne elt) own src.n 0 r h1 := hide rfl
@[simp] theorem x_comp2 (ms : Ev → SM Src) (g : TGm) (mt : Option Ex) (ms1 : Ev → SM Src) (g1 : TGm) (mt1 : Option Ex) (elt : Ex) (own own1 : List Nat) : eComp2 ms g mt ms1 g1 mt1 elt own own1 r h =
  (ms r h).bind fun src h1 => (compLoop src g mt (eIn ms1 g1 mt1 elt own1) own src.n 0 r h1).bind fun vs h2 => if vs.length ≤ big then .ok vs h2 else .stuck := hide rfl
@[simp] theorem x_in (ms1 : Ev → SM Src) (g1 : TGm) (mt1 : Option Ex) (elt : Ex) (own1 : List Nat) : eIn ms1 g1 mt1 elt own1 r h = (ms1 r h).bind fun src h1 => compLoop src g1 mt1 (eOne elt) own1 src.n 0 r h1 := hide rfl
@[simp] theorem x_one (e : Ex) : eOne e r h = (e r h).bind fun v h1 => .ok [v] h1 := hide rfl
@[simp] theorem x_test0 : eTest none r h = .ok true h := hide rfl
@[simp] theorem x_test1 (e : Ex) : eTest (some e) r h = (e r h).bind truthM := hide rfl
@[simp] theorem x_wipe0 : wipeE r [] = r := hide rfl
@[simp] theorem x_wipe1 (v : Nat) (vs : List Nat) : wipeE r (v :: vs) = (wipeE r vs).set v none := hide rfl
@[simp] theorem x_finr (v : Val) : fin (.ok (.rt v) h) = .ok v h := hide rfl
@[simp] theorem x_finn : fin (.ok (.nx r) h) = .ok .non h := hide rfl
@[simp] theorem x_gstore (o i : Ex) (v : Val) : gStore o i v r h = (o r h).bind fun x h1 => (i r h1).bind fun y h2 => match gPut h2 x y v with | some h3 => .ok r h3 | none => .stuck := hide rfl
@[simp] theorem x_met (g : PH → List Val → List Val → Option (List Val × Val)) (o : Ex) (ms : List Ex) : eMet g o ms r h = (o r h).bind fun x h1 => match x with
  | .ref l => (match h1[l]? with
    | some (.lst _) => (eArgs ms r h1).bind fun vs h2 => (match h2[l]? with
      | some (.lst xs) => (match g h2 xs vs with
        | some (ys, z) => .ok z (h2.set l (.lst ys))
        | none => .stuck)
      | _ => .stuck)
    | _ => .stuck)
  | _ => .stuck := hide rfl
@[simp] theorem x_move (i : Nat) : eMove i r h = match r.getD i none with
  | some (.ref l) => (match h[l]? with | some (.lst xs) => .ok (.lst xs) (h.set l .non) | _ => .stuck)
  | some v => .ok v h
  | none => .stuck := hide rfl
end

/-! ### operations -/
@[simp] theorem pow_1018 {h : PH} : gPow h (.int 10) (.int 18) = some (.int 1000000000000000000) := by simp [gPow, fac]
@[simp] theorem putk {h : PH} {l : Nat} {xs : List Val} {k : Int} {v : Val} (e : h[l]? = some (.lst xs)) : gPut h (.ref l) (.int k) v = (L2.ixN xs.length k).map fun j => h.set l (.lst (xs.set j v)) := by simp [gPut, e]

section
variable {h : PH} {i j : Int} {xs ys : List Val} {a b : Bool}
@[simp] theorem view_int : view h (.int i) = .int i := hide rfl
@[simp] theorem view_bl : view h (.bl a) = .bl a := hide rfl
@[simp] theorem view_non : view h .non = .non := hide rfl
@[simp] theorem view_tup' : view h (.tup xs) = .tup xs := hide rfl
@[simp] theorem view_lst' : view h (.lst xs) = .lst xs := hide rfl
@[simp] theorem view_dct' {ks : List Val} : view h (.dct ks xs) = .dct ks xs := hide rfl
@[simp] theorem add_ii : gAdd h (.int i) (.int j) = some (.int (i + j)) := hide rfl
@[simp] theorem sub_ii : gSub h (.int i) (.int j) = some (.int (i - j)) := hide rfl
@[simp] theorem neg_i : gNeg h (.int i) = some (.int (-i)) := hide rfl
theorem mul_l (hi : fac i = true) : gMul h (.int i) (.int j) = some (.int (i * j)) := by simp [gMul, hi]
theorem mul_r (hi : fac j = true) : gMul h (.int i) (.int j) = some (.int (i * j)) := by simp [gMul, hi]
theorem div_ii (h1 : 0 < j) (h2 : j < 1073741824) : gDiv h (.int i) (.int j) = some (.int (i / j)) := by simp [gDiv, h1, h2]
theorem mod_ii (h1 : 0 < j) : gMod h (.int i) (.int j) = some (.int (i % j)) := by simp [gMod, h1]
@[simp] theorem eq_ii : gEq h (.int i) (.int j) = some (.bl (decide (i = j))) := by simp only [gEq, dd, view_int, dat, veq, Bool.and_self, if_true]; rfl
@[simp] theorem ne_ii : gNe h (.int i) (.int j) = some (.bl (!decide (i = j))) := by simp only [gNe, dd, view_int, dat, veq, Bool.and_self, if_true]; rfl
@[simp] theorem lt_ii : gLt h (.int i) (.int j) = some (.bl (decide (i < j))) := by simp [gLt, ord, dat, valike, nonB, vlt]
@[simp] theorem gt_ii : gGt h (.int i) (.int j) = some (.bl (decide (j < i))) := by simp [gGt, ord, dat, valike, nonB, vlt]
@[simp] theorem le_ii : gLe h (.int i) (.int j) = some (.bl (decide (i ≤ j))) := by
  simp only [gLe, ord, view_int, dat, valike, nonB, vlt, Bool.and_self, Bool.not_false, if_true, Option.some.injEq, Val.bl.injEq]
  by_cases q : i ≤ j <;> simp [q] <;> omega
@[simp] theorem ge_ii : gGe h (.int i) (.int j) = some (.bl (decide (j ≤ i))) := by
  simp only [gGe, ord, view_int, dat, valike, nonB, vlt, Bool.and_self, Bool.not_false, if_true, Option.some.injEq, Val.bl.injEq]
  by_cases q : j ≤ i <;> simp [q] <;> omega
@[simp] theorem eq_bb : gEq h (.bl a) (.bl b) = some (.bl (a == b)) := by simp [gEq, dd, dat, veq]
@[simp] theorem ne_bb : gNe h (.bl a) (.bl b) = some (.bl (!(a == b))) := by simp [gNe, dd, dat, veq]
@[simp] theorem is_int : gIs h (.int i) .non = some (.bl false) := hide rfl
@[simp] theorem is_non : gIs h .non .non = some (.bl true) := hide rfl
@[simp] theorem is_bl : gIs h (.bl a) .non = some (.bl false) := hide rfl
@[simp] theorem is_tup : gIs h (.tup xs) .non = some (.bl false) := hide rfl
@[simp] theorem is_lst : gIs h (.lst xs) .non = some (.bl false) := hide rfl
@[simp] theorem isnot_int : gIsNot h (.int i) .non = some (.bl true) := hide rfl
@[simp] theorem isnot_non : gIsNot h .non .non = some (.bl false) := hide rfl
@[simp] theorem isnot_tup : gIsNot h (.tup xs) .non = some (.bl true) := hide rfl
@[simp] theorem isnot_lst : gIsNot h (.lst xs) .non = some (.bl true) := hide rfl
@[simp] theorem ix_tup : gIx h (.tup xs) (.int i) = L2.atI xs i := hide rfl
@[simp] theorem ix_lst : gIx h (.lst xs) (.int i) = L2.atI xs i := hide rfl
@[simp] theorem int_i : gInt h [.int i] = some (.int i) := hide rfl
@[simp] theorem int_b : gInt h [.bl a] = some (.int (if a then 1 else 0)) := hide rfl
@[simp] theorem abs_i : gAbs h [.int i] = some (.int (if i < 0 then -i else i)) := hide rfl
@[simp] theorem len_tup : gLen h [.tup xs] = some (.int xs.length) := hide rfl
@[simp] theorem len_lst : gLen h [.lst xs] = some (.int xs.length) := hide rfl
@[simp] theorem tuple_lst : gTuple h [.lst xs] = some (.tup xs) := hide rfl
@[simp] theorem tuple_tup : gTuple h [.tup xs] = some (.tup xs) := hide rfl
@[simp] theorem max_ii : gMax2 h [.int i, .int j] = some (.int (if j > i then j else i)) := hide rfl
@[simp] theorem min_ii : gMin2 h [.int i, .int j] = some (.int (if j < i then j else i)) := hide rfl
end
@[simp] theorem view_str {h : PH} {s : Str} : view h (.str s) = .str s := hide rfl
section
variable {h : PH} {b : Bool} {i : Int} {s : Str} {xs ks : List Val}
@[simp] theorem isi_non_bool : gIsi .bool h .non = some (.bl false) := hide rfl
@[simp] theorem isi_non_int : gIsi .int h .non = some (.bl false) := hide rfl
@[simp] theorem isi_non_str : gIsi .str h .non = some (.bl false) := hide rfl
@[simp] theorem isi_non_tup : gIsi .tup h .non = some (.bl false) := hide rfl
@[simp] theorem isi_non_lst : gIsi .lst h .non = some (.bl false) := hide rfl
@[simp] theorem isi_non_dct : gIsi .dct h .non = some (.bl false) := hide rfl
@[simp] theorem isi2_non_tup_lst : gIsi2 .tup .lst h .non = some (.bl false) := hide rfl
@[simp] theorem isi2_non_lst_tup : gIsi2 .lst .tup h .non = some (.bl false) := hide rfl
@[simp] theorem isi2_non_int_str : gIsi2 .int .str h .non = some (.bl false) := hide rfl
@[simp] theorem isi2_non_str_int : gIsi2 .str .int h .non = some (.bl false) := hide rfl
@[simp] theorem isi_bl_bool : gIsi .bool h (.bl b) = some (.bl true) := hide rfl
@[simp] theorem isi_bl_int : gIsi .int h (.bl b) = some (.bl true) := hide rfl
@[simp] theorem isi_bl_str : gIsi .str h (.bl b) = some (.bl false) := hide rfl
@[simp] theorem isi_bl_tup : gIsi .tup h (.bl b) = some (.bl false) := hide rfl
@[simp] theorem isi_bl_lst : gIsi .lst h (.bl b) = some (.bl false) := hide rfl
@[simp] theorem isi_bl_dct : gIsi .dct h (.bl b) = some (.bl false) := hide rfl
@[simp] theorem isi2_bl_tup_lst : gIsi2 .tup .lst h (.bl b) = some (.bl false) := hide rfl
@[simp] theorem isi2_bl_lst_tup : gIsi2 .lst .tup h (.bl b) = some (.bl false) := hide rfl
@[simp] theorem isi2_bl_int_str : gIsi2 .int .str h (.bl b) = some (.bl true) := hide rfl
@[simp] theorem isi2_bl_str_int : gIsi2 .str .int h (.bl b) = some (.bl true) := hide rfl
@[simp] theorem isi_int_bool : gIsi .bool h (.int i) = some (.bl false) := hide rfl
@[simp] theorem isi_int_int : gIsi .int h (.int i) = some (.bl true) := hide rfl
@[simp] theorem isi_int_str : gIsi .str h (.int i) = some (.bl false) := hide rfl
@[simp] theorem isi_int_tup : gIsi .tup h (.int i) = some (.bl false) := hide rfl
@[simp] theorem isi_int_lst : gIsi .lst h (.int i) = some (.bl false) := hide rfl
@[simp] theorem isi_int_dct : gIsi .dct h (.int i) = some (.bl false) := hide rfl
@[simp] theorem isi2_int_tup_lst : gIsi2 .tup .lst h (.int i) = some (.bl false) := hide rfl
@[simp] theorem isi2_int_lst_tup : gIsi2 .lst .tup h (.int i) = some (.bl false) := hide rfl
@[simp] theorem isi2_int_int_str : gIsi2 .int .str h (.int i) = some (.bl true) := hide rfl
@[simp] theorem isi2_int_str_int : gIsi2 .str .int h (.int i) = some (.bl true) := hide rfl
@[simp] theorem isi_str_bool : gIsi .bool h (.str s) = some (.bl false) := hide rfl
@[simp] theorem isi_str_int : gIsi .int h (.str s) = some (.bl false) := hide rfl
@[simp] theorem isi_str_str : gIsi .str h (.str s) = some (.bl true) := hide rfl
@[simp] theorem isi_str_tup : gIsi .tup h (.str s) = some (.bl false) := hide rfl
@[simp] theorem isi_str_lst : gIsi .lst h (.str s) = some (.bl false) := hide rfl
@[simp] theorem isi_str_dct : gIsi .dct h (.str s) = some (.bl false) := hide rfl
@[simp] theorem isi2_str_tup_lst : gIsi2 .tup .lst h (.str s) = some (.bl false) := hide rfl
@[simp] theorem isi2_str_lst_tup : gIsi2 .lst .tup h (.str s) = some (.bl false) := hide rfl
@[simp] theorem isi2_str_int_str : gIsi2 .int .str h (.str s) = some (.bl true) := hide rfl
@[simp] theorem isi2_str_str_int : gIsi2 .str .int h (.str s) = some (.bl true) := hide rfl
@[simp] theorem isi_tup_bool : gIsi .bool h (.tup xs) = some (.bl false) := hide rfl
@[simp] theorem isi_tup_int : gIsi .int h (.tup xs) = some (.bl false) := hide rfl
@[simp] theorem isi_tup_str : gIsi .str h (.tup xs) = some (.bl false) := hide rfl
@[simp] theorem isi_tup_tup : gIsi .tup h (.tup xs) = some (.bl true) := hide rfl
@[simp] theorem isi_tup_lst : gIsi .lst h (.tup xs) = some (.bl false) := hide rfl
@[simp] theorem isi_tup_dct : gIsi .dct h (.tup xs) = some (.bl false) := hide rfl
@[simp] theorem isi2_tup_tup_lst : gIsi2 .tup .lst h (.tup xs) = some (.bl true) := hide rfl
@[simp] theorem isi2_tup_lst_tup : gIsi2 .lst .tup h (.tup xs) = some (.bl true) := hide rfl
@[simp] theorem isi2_tup_int_str : gIsi2 .int .str h (.tup xs) = some (.bl false) := hide rfl
@[simp] theorem isi2_tup_str_int : gIsi2 .str .int h (.tup xs) = some (.bl false) := hide rfl
@[simp] theorem isi_lst_bool : gIsi .bool h (.lst xs) = some (.bl false) := hide rfl
@[simp] theorem isi_lst_int : gIsi .int h (.lst xs) = some (.bl false) := hide rfl
@[simp] theorem isi_lst_str : gIsi .str h (.lst xs) = some (.bl false) := hide rfl
@[simp] theorem isi_lst_tup : gIsi .tup h (.lst xs) = some (.bl false) := hide rfl
@[simp] theorem isi_lst_lst : gIsi .lst h (.lst xs) = some (.bl true) := hide rfl
@[simp] theorem isi_lst_dct : gIsi .dct h (.lst xs) = some (.bl false) := hide rfl
@[simp] theorem isi2_lst_tup_lst : gIsi2 .tup .lst h (.lst xs) = some (.bl true) := hide rfl
@[simp] theorem isi2_lst_lst_tup : gIsi2 .lst .tup h (.lst xs) = some (.bl true) := hide rfl
@[simp] theorem isi2_lst_int_str : gIsi2 .int .str h (.lst xs) = some (.bl false) := hide rfl
@[simp] theorem isi2_lst_str_int : gIsi2 .str .int h (.lst xs) = some (.bl false) := hide rfl
@[simp] theorem isi_dct_bool : gIsi .bool h (.dct ks xs) = some (.bl false) := hide rfl
@[simp] theorem isi_dct_int : gIsi .int h (.dct ks xs) = some (.bl false) := hide rfl
@[simp] theorem isi_dct_str : gIsi .str h (.dct ks xs) = some (.bl false) := hide rfl
@[simp] theorem isi_dct_tup : gIsi .tup h (.dct ks xs) = some (.bl false) := hide rfl
@[simp] theorem isi_dct_lst : gIsi .lst h (.dct ks xs) = some (.bl false) := hide rfl
@[simp] theorem isi_dct_dct : gIsi .dct h (.dct ks xs) = some (.bl true) := hide rfl
@[simp] theorem isi2_dct_tup_lst : gIsi2 .tup .lst h (.dct ks xs) = some (.bl false) := hide rfl
@[simp] theorem isi2_dct_lst_tup : gIsi2 .lst .tup h (.dct ks xs) = some (.bl false) := hide rfl
@[simp] theorem isi2_dct_int_str : gIsi2 .int .str h (.dct ks xs) = some (.bl false) := hide rfl
@[simp] theorem isi2_dct_str_int : gIsi2 .str .int h (.dct ks xs) = some (.bl false) := hide rfl
@[simp] theorem is_str : gIs h (.str s) .non = some (.bl false) := hide rfl
@[simp] theorem is_dct : gIs h (.dct ks xs) .non = some (.bl false) := hide rfl
@[simp] theorem isnot_str : gIsNot h (.str s) .non = some (.bl true) := hide rfl
@[simp] theorem isnot_bl : gIsNot h (.bl b) .non = some (.bl true) := hide rfl
end
end SW

namespace SW
open PySem

/-! ### a hand that draws -/
def HandOK (v : Val) : Prop := ∃ (cells : List Int) (a b c e : Int), v = .lst [.lst (cells.map .int), .int a, .int b, .int c, .int e] ∧ (∀ x ∈ cells, 0 ≤ x) ∧ 0 ≤ a ∧ 0 ≤ b
theorem fac_mod {x m : Int} (h0 : 0 < m) (h : m < 18446744073709551616) : fac (x % m) = true := by
  have h1 := Int.emod_nonneg x (Int.ne_of_gt h0)
  have h2 := Int.emod_lt_of_pos x h0
  simp only [fac, Bool.and_eq_true, decide_eq_true_eq]
  omega
@[simp] theorem ix_ref {h : PH} {l : Nat} {i : Int} {xs : List Val} (e : h[l]? = some (.lst xs)) : gIx h (.ref l) (.int i) = L2.atI xs i := by simp [gIx, view, e]
theorem atI_nat {α : Type} {xs : List α} {i : Int} (h0 : 0 ≤ i) (h1 : i < xs.length) : L2.atI xs i = xs[i.toNat]? := by
  unfold L2.atI L2.ixN
  rw [if_pos h0, if_pos h1]; rfl
theorem atI0 {α : Type} {x : α} {xs : List α} : L2.atI (x :: xs) 0 = some x := by
  rw [atI_nat (by decide) (by simp <;> omega)]; rfl
theorem atI1 {α : Type} {x y : α} {xs : List α} : L2.atI (x :: y :: xs) 1 = some y := by
  rw [atI_nat (by decide) (by simp <;> omega)]; rfl
theorem atI2 {α : Type} {x y z : α} {xs : List α} : L2.atI (x :: y :: z :: xs) 2 = some z := by
  rw [atI_nat (by decide) (by simp <;> omega)]; rfl
theorem atI3 {α : Type} {x y z u : α} {xs : List α} : L2.atI (x :: y :: z :: u :: xs) 3 = some u := by
  rw [atI_nat (by decide) (by simp <;> omega)]; rfl
theorem atI4 {α : Type} {x y z u v : α} {xs : List α} : L2.atI (x :: y :: z :: u :: v :: xs) 4 = some v := by
  rw [atI_nat (by decide) (by simp <;> omega)]; rfl
theorem ixN_nat {n : Nat} {i : Int} (h0 : 0 ≤ i) (h1 : i < n) : L2.ixN n i = some i.toNat := by
  unfold L2.ixN
  rw [if_pos h0, if_pos h1]

/-! ### loops -/
/-- what src walks at h: its -/
structure Walks (src : Src) (h : PH) (its : List Val) : Prop where
  n : src.n = its.length
  get : ∀ i, i < its.length → src.get h i = its[i]?
  fin : src.fin h = true
theorem walks_seq {v : Val} {xs : List Val} {h : PH} (e : seqAt v h = some xs) : Walks (liveSrc v xs.length fun i ys => ys[i]?) h xs :=
  ⟨rfl, fun i _ => by simp [liveSrc, e], by simp [liveSrc, e]⟩
theorem walks_enum {v : Val} {xs : List Val} {h : PH} (e : seqAt v h = some xs) : Walks (liveSrc v xs.length fun i ys => (ys[i]?).map fun y => .tup [.int i, y]) h (xs.mapIdx fun i y => .tup [.int i, y]) :=
  ⟨by simp [liveSrc], fun i _ => by simp [liveSrc, e], by simp [liveSrc, e]⟩
theorem walks_up {lo : Int} {n : Nat} {h : PH} : Walks (srcUp lo n) h ((List.range n).map fun i => .int (lo + (i : Nat))) :=
  ⟨by simp [srcUp], fun i hi => by simp at hi; simp [srcUp, hi], rfl⟩
theorem walks_down {lo c : Int} {n : Nat} {h : PH} : Walks (srcRng lo c n) h ((List.range n).map fun i => .int (lo + (i : Nat) * c)) :=
  ⟨by simp [srcRng], fun i hi => by simp at hi; simp [srcRng, hi], rfl⟩
theorem walks_rev {v : Val} {xs : List Val} {h : PH} (e : seqAt v h = some xs) : Walks (revSrc v xs.length) h xs.reverse :=
  ⟨by simp [revSrc], fun i hi => by simp at hi; simp [revSrc, e, hi, List.getElem?_reverse], rfl⟩
theorem walks_zip {v w : Val} {xs ys : List Val} {h : PH} (e : seqAt v h = some xs) (e2 : seqAt w h = some ys) : Walks (zipSrc v w (min xs.length ys.length)) h (List.zipWith (fun x y => .tup [x, y]) xs ys) :=
  ⟨by simp [zipSrc], fun i hi => by
    simp at hi
    simp only [zipSrc, e, e2, List.getElem?_zipWith]
    rw [List.getElem?_eq_getElem (by omega), List.getElem?_eq_getElem (by omega)], by
    simp only [zipSrc, e, e2, Bool.or_eq_true, decide_eq_true_eq]; omega⟩
@[simp] theorem seqAt_tup {xs : List Val} {h : PH} : seqAt (.tup xs) h = some xs := hide rfl
@[simp] theorem seqAt_lst {xs : List Val} {h : PH} : seqAt (.lst xs) h = some xs := hide rfl
@[simp] theorem seqAt_scr {xs : List Val} {h : PH} : seqAt (.ins 0 xs) h = some xs := hide rfl
section
variable {src : Src} {g : TGm} {mt : Option Ex} {elt : Ex} {own : List Nat} {r : Ev} {h : PH} {its : List Val}
theorem comp_from {body : Ev → SM (List Val)} {p : Val → Bool} {f : Val → List Val} (w : Walks src h its)
    (step : ∀ x ∈ its, ∃ r1, g x (wipeE r own) h = .ok r1 h ∧ eTest mt r1 h = .ok (p x) h ∧ (p x = true → body r1 h = .ok (f x) h)) : ∀ k i, i + k = its.length → compLoop src g mt body own k i r h = .ok (((its.drop i).filter p).flatMap f) h
  | 0, i, e => by
    unfold compLoop
    rw [w.fin, if_pos rfl, List.drop_eq_nil_of_le (by omega)]; rfl
  | k + 1, i, e => by
    have hi : i < its.length := by omega
    have e1 : src.get h i = some its[i] := by rw [w.get i hi, List.getElem?_eq_getElem hi]
    obtain ⟨r1, s1, s2, s3⟩ := step its[i] (List.getElem_mem hi)
    unfold compLoop
    rw [e1]
    dsimp only
    have ih := comp_from w step k (i + 1) (by omega)
    rw [s1, x_nok, x_bok, s2, x_nok, x_bok, List.drop_eq_getElem_cons hi]
    cases q : p its[i] with
    | true =>
      rw [if_pos rfl, s3 q, x_nok, x_bok, ih, x_bok, List.filter_cons_of_pos q]; rfl
    | false =>
      rw [if_neg Bool.false_ne_true, ih, List.filter_cons_of_neg (by rw [q]; exact Bool.false_ne_true)]
theorem comp_flat {body : Ev → SM (List Val)} {p : Val → Bool} {f : Val → List Val} (w : Walks src h its)
    (step : ∀ x ∈ its, ∃ r1, g x (wipeE r own) h = .ok r1 h ∧ eTest mt r1 h = .ok (p x) h ∧ (p x = true → body r1 h = .ok (f x) h)) : compLoop src g mt body own src.n 0 r h = .ok ((its.filter p).flatMap f) h := by
  rw [w.n, comp_from w step its.length 0 (by omega)]; rfl
theorem flatMap_one {α β : Type} (f : α → β) : ∀ xs : List α, xs.flatMap (fun x => [f x]) = xs.map f
  | [] => rfl
  | x :: xs => by rw [List.flatMap_cons, flatMap_one f xs]; rfl
theorem comp_map {p : Val → Bool} {f : Val → Val} (w : Walks src h its)
    (step : ∀ x ∈ its, ∃ r1, g x (wipeE r own) h = .ok r1 h ∧ eTest mt r1 h = .ok (p x) h ∧ (p x = true → elt r1 h = .ok (f x) h)) : compLoop src g mt (eOne elt) own src.n 0 r h = .ok ((its.filter p).map f) h := by
  have q := comp_flat (mt := mt) (body := eOne elt) (own := own) (g := g) (r := r) (p := p) (f := fun x => [f x]) w fun x hx => by
    obtain ⟨r1, s1, s2, s3⟩ := step x hx
    exact ⟨r1, s1, s2, fun q => by rw [x_one, s3 q, x_bok]⟩
  rw [q, flatMap_one]
/-- no test -/
theorem comp_map0 {f : Val → Val} (w : Walks src h its) (step : ∀ x ∈ its, ∃ r1, g x (wipeE r own) h = .ok r1 h ∧ elt r1 h = .ok (f x) h) : compLoop src g none (eOne elt) own src.n 0 r h = .ok (its.map f) h := by
  have q := comp_map (mt := none) (elt := elt) (own := own) (g := g) (r := r) (p := fun _ => true) (f := f) w fun x hx => by
    obtain ⟨r1, s1, s2⟩ := step x hx
    exact ⟨r1, s1, rfl, fun _ => s2⟩
  rw [q, List.filter_eq_self.mpr (fun _ _ => rfl)]
theorem comp_flat0 {body : Ev → SM (List Val)} {f : Val → List Val} (w : Walks src h its) (step : ∀ x ∈ its, ∃ r1, g x (wipeE r own) h = .ok r1 h ∧ body r1 h = .ok (f x) h) : compLoop src g none body own src.n 0 r h = .ok (its.flatMap f) h := by
  have q := comp_flat (mt := none) (body := body) (own := own) (g := g) (r := r) (p := fun _ => true) (f := f) w fun x hx => by
    obtain ⟨r1, s1, s2⟩ := step x hx
    exact ⟨r1, s1, rfl, fun _ => s2⟩
  rw [q, List.filter_eq_self.mpr (fun _ _ => rfl)]
/-- the elements may change the heap: I i h acc behind i turns -/
theorem comp_st_from {mt : Option Ex} {body : Ev → SM (List Val)} (w : ∀ h, Walks src h its) (I : Nat → PH → List Val → Prop)
    (step : ∀ i x h acc, its[i]? = some x → I i h acc → ∃ r1 h1 b h2, g x (wipeE r own) h = .ok r1 h1 ∧ eTest mt r1 h1 = .ok b h2 ∧ (if b = true then ∃ ys h3, body r1 h2 = .ok ys h3 ∧ I (i + 1) h3 (acc ++ ys) else I (i + 1) h2 acc)) :
    ∀ k i h acc, i + k = its.length → I i h acc → ∃ vs h', compLoop src g mt body own k i r h = .ok vs h' ∧ I its.length h' (acc ++ vs)
  | 0, i, h, acc, e, hI => by
    have : i = its.length := by omega
    subst this
    exact ⟨[], h, by unfold compLoop; rw [(w h).fin, if_pos rfl], by rw [List.append_nil]; exact hI⟩
  | k + 1, i, h, acc, e, hI => by
    have hi : i < its.length := by omega
    have e1 : src.get h i = some its[i] := by rw [(w h).get i hi, List.getElem?_eq_getElem hi]
    obtain ⟨r1, h1, b, h2, s1, s2, s3⟩ := step i its[i] h acc (List.getElem?_eq_getElem hi) hI
    cases b with
    | true =>
      rw [if_pos rfl] at s3
      obtain ⟨ys, h3, s4, s5⟩ := s3
      obtain ⟨vs, h', q1, q2⟩ := comp_st_from w I step k (i + 1) h3 (acc ++ ys) (by omega) s5
      refine ⟨ys ++ vs, h', ?_, by rw [← List.append_assoc]; exact q2⟩
      unfold compLoop
      rw [e1]
      dsimp only
      rw [s1, x_nok, x_bok, s2, x_nok, x_bok, if_pos rfl, s4, x_nok, x_bok, q1, x_bok]
    | false =>
      rw [if_neg Bool.false_ne_true] at s3
      obtain ⟨vs, h', q1, q2⟩ := comp_st_from w I step k (i + 1) h2 acc (by omega) s3
      refine ⟨vs, h', ?_, q2⟩
      unfold compLoop
      rw [e1]
      dsimp only
      rw [s1, x_nok, x_bok, s2, x_nok, x_bok, if_neg Bool.false_ne_true, q1]
theorem comp_st {mt : Option Ex} {body : Ev → SM (List Val)} (w : ∀ h, Walks src h its) (I : Nat → PH → List Val → Prop) (h0 : I 0 h [])
    (step : ∀ i x h acc, its[i]? = some x → I i h acc → ∃ r1 h1 b h2, g x (wipeE r own) h = .ok r1 h1 ∧ eTest mt r1 h1 = .ok b h2 ∧ (if b = true then ∃ ys h3, body r1 h2 = .ok ys h3 ∧ I (i + 1) h3 (acc ++ ys) else I (i + 1) h2 acc)) :
    ∃ vs h', compLoop src g mt body own src.n 0 r h = .ok vs h' ∧ I its.length h' vs := by
  obtain ⟨vs, h', e, q⟩ := comp_st_from w I step its.length 0 h [] (by omega) h0
  exact ⟨vs, h', by rw [(w h).n]; exact e, q⟩
/-- for: I i r h ahead of the turn i -/
theorem for_from {b : Stm} (I : Nat → Ev → PH → Prop) (w : ∀ i r h, I i r h → Walks src h its)
    (step : ∀ i x r h, its[i]? = some x → I i r h → ∃ r' h', ((g x r h).bind fun r1 h1 => b r1 h1) = .ok (.nx r') h' ∧ I (i + 1) r' h' ∨ ((g x r h).bind fun r1 h1 => b r1 h1) = .ok (.ct r') h' ∧ I (i + 1) r' h') :
    ∀ k i r h, i + k = its.length → I i r h → ∃ r' h', forLoop src g b k i r h = .ok (.nx r') h' ∧ I its.length r' h'
  | 0, i, r, h, e, hI => by
    have : i = its.length := by omega
    subst this
    exact ⟨r, h, by unfold forLoop; rw [(w _ _ _ hI).fin, if_pos rfl], hI⟩
  | k + 1, i, r, h, e, hI => by
    have hi : i < its.length := by omega
    have e1 : src.get h i = some its[i] := by rw [(w _ _ _ hI).get i hi, List.getElem?_eq_getElem hi]
    obtain ⟨r1, h1, s⟩ := step i its[i] r h (List.getElem?_eq_getElem hi) hI
    rcases s with ⟨s1, s2⟩ | ⟨s1, s2⟩
    · obtain ⟨r2, h2, q1, q2⟩ := for_from I w step k (i + 1) r1 h1 (by omega) s2
      refine ⟨r2, h2, ?_, q2⟩
      unfold forLoop
      rw [e1]
      dsimp only
      rw [← Res.bind_assoc, s1, x_bok]
      exact q1
    · obtain ⟨r2, h2, q1, q2⟩ := for_from I w step k (i + 1) r1 h1 (by omega) s2
      refine ⟨r2, h2, ?_, q2⟩
      unfold forLoop
      rw [e1]
      dsimp only
      rw [← Res.bind_assoc, s1, x_bok]
      exact q1
theorem for_inv {b : Stm} (I : Nat → Ev → PH → Prop) (w : ∀ i r h, I i r h → Walks src h its) (h0 : I 0 r h)
    (step : ∀ i x r h, its[i]? = some x → I i r h → ∃ r' h', ((g x r h).bind fun r1 h1 => b r1 h1) = .ok (.nx r') h' ∧ I (i + 1) r' h' ∨ ((g x r h).bind fun r1 h1 => b r1 h1) = .ok (.ct r') h' ∧ I (i + 1) r' h') :
    ∃ r' h', forLoop src g b src.n 0 r h = .ok (.nx r') h' ∧ I its.length r' h' := by
  rw [(w _ _ _ h0).n]
  exact for_from I w step its.length 0 r h (by omega) h0
end

/-! ### calls apart -/
theorem ap {d : Dm} {vs : List Val} {v : Val} {h h2 : PH} (e : d vs [] = .ok v h2) (hf : frees vs = true) (hv : free v = true) : apart d vs h = .ok v h := by
  unfold apart
  rw [if_pos hf, e]
  dsimp only
  rw [dvN_free 3 h2 hv]; rfl
theorem st {d : Dm} {vs : List Val} {v : Val} {h h2 : PH} (e : d vs [] = .ok v h2) (hf : frees vs = true) (hv : flat v = true) : still d vs h = .ok v h := by
  unfold still
  rw [dvs0_free _ hf]
  dsimp only
  rw [e]
  dsimp only
  rw [if_pos hv]

/-! ### data equal to itself -/
mutual
theorem veq_refl : ∀ (v : Val) (n : Nat), dat v n = true → veq v v = true
  | .non, _, _ => rfl
  | .bl b, _, _ => by simp [veq]
  | .int i, _, _ => by simp [veq]
  | .str x, _, _ => by simp [veq]
  | .tup xs, n, h => by
    cases n with
    | zero => simp [dat] at h
    | succ n => simp only [veq]; exact veqs_refl xs n (by simpa only [dat] using h)
  | .lst xs, n, h => by
    cases n with
    | zero => simp [dat] at h
    | succ n => simp only [veq]; exact veqs_refl xs n (by simpa only [dat] using h)
  | .dct _ _, _, h => by simp [dat] at h
  | .ins _ _, _, h => by simp [dat] at h
  | .ref _, _, h => by simp [dat] at h
theorem veqs_refl : ∀ (v : List Val) (n : Nat), dats v n = true → veqs v v = true
  | [], _, _ => rfl
  | x :: xs, n, h => by
    simp only [dats, Bool.and_eq_true] at h
    simp only [veqs, veq_refl x n h.1, veqs_refl xs n h.2, Bool.and_self]
end
theorem bls_map {α : Type} (f : α → Bool) : ∀ xs : List α, bls (xs.map fun x => .bl (f x)) = some (xs.map f)
  | [] => rfl
  | x :: xs => by simp [bls, bls_map f xs]
theorem bls_true {vs : List Val} (h : ∀ v ∈ vs, v = .bl true) : ∃ bs, bls vs = some bs ∧ bs.all id = true := by
  induction vs with
  | nil => exact ⟨[], rfl, rfl⟩
  | cons v vs ih =>
    obtain ⟨bs, e, q⟩ := ih fun x hx => h x (List.mem_cons_of_mem _ hx)
    obtain rfl := h v (List.mem_cons_self ..)
    exact ⟨true :: bs, by simp [bls, e], by simpa using q⟩
theorem all_true {vs : List Val} {h : PH} (hv : ∀ v ∈ vs, v = .bl true) : gAll h [.lst vs] = some (.bl true) := by
  obtain ⟨bs, e, q⟩ := bls_true hv
  simp only [gAll, view_lst', e, Option.map_some, q]
end SW

namespace SW
open PySem PySem.Spec PyProof.Rows L2
def c_LEAST_SPANS : Val := .int 2
def l_SIGNS : List Val := [.tup [.int (-1), .int (-1), .int (-1), .int (-1)], .tup [.int (-1), .int (-1), .int 0, .int (-1)], .tup [.int (-1), .int (-1), .int 1, .int (-1)], .tup [.int 0, .int (-1), .int 1, .int (-1)], .tup [.int 1, .int (-1), .int 1, .int (-1)], .tup [.int 1, .int (-1), .int 1, .int 0], .tup [.int 0, .int (-1), .int 1, .int 0], .tup [.int (-1), .int (-1), .int 1, .int 0], .tup [.int (-1), .int (-1), .int 1, .int 1], .tup [.int 0, .int (-1), .int 1, .int 1], .tup [.int 1, .int (-1), .int 1, .int 1], .tup [.int 1, .int 0, .int 1, .int 1], .tup [.int 1, .int 1, .int 1, .int 1]]
def c_SIGNS : Val := .tup l_SIGNS
def c_MOST_RELATION : Val := .int 12
def c_MOST_PLACE : Val := .int 1000000
def c_MOST_SPANS : Val := .int 6
def b_is_integer : Stm := (sRet (eAnd (eUn (gIsi .int) (eVar 0)) (eNot (eUn (gIsi .bool) (eVar 0)))))
def d_is_integer : Dm := defRun 1 b_is_integer
def b_is_within : Stm := (sRet (eAnd (eCallP d_is_integer [(eVar 0)]) (eChain gLe gLe (eVar 1) (eVar 0) (eVar 2))))
def d_is_within : Dm := defRun 3 b_is_within
def b_is_stretch : Stm := (sSeq (sIf (kOr (kNot (eUn (gIsi .tup) (eVar 0))) (eBin gNe (eCall gLen [(eVar 0)]) (eC (.int 2)))) (sRet (eC (.bl false))) sNil)
    (sRet (eAnd (eCall gAll [(eFrz (eComp (sSeq1 srcSeq (eVar 0)) (gSet 1) none (eCallP d_is_within [(eVar 1), (eUn gNeg (eC c_MOST_PLACE)), (eC c_MOST_PLACE)]) [1]))]) (eBin gLe (eBin gIx (eVar 0) (eC (.int 0))) (eBin gIx (eVar 0) (eC (.int 1)))))))
def d_is_stretch : Dm := defRun 2 b_is_stretch
def b_is_span : Stm := (sRet (eAnd (eCallP d_is_stretch [(eVar 0)]) (eBin gLt (eBin gIx (eVar 0) (eC (.int 0))) (eBin gIx (eVar 0) (eC (.int 1))))))
def d_is_span : Dm := defRun 1 b_is_span
def b_compared : Stm := (sRet (eBin gSub (eCall gInt [(eBin gGt (eVar 0) (eVar 1))]) (eCall gInt [(eBin gLt (eVar 0) (eVar 1))])))
def d_compared : Dm := defRun 2 b_compared
def b_signs_of : Stm := (sRet (eCall gTuple [(eFrz (eComp2 (sSeq1 srcSeq (eVar 0)) (gSet 2) none (sSeq1 srcSeq (eVar 1)) (gSet 3) none (eCallP d_compared [(eVar 2), (eVar 3)]) [2, 3] [3]))]))
def d_signs_of : Dm := defRun 4 b_signs_of
def b_raw_relation : Stm := (sRet (eUn (gIndexC l_SIGNS) (eCallP d_signs_of [(eVar 0), (eVar 1)])))
def d_raw_relation : Dm := defRun 2 b_raw_relation
def b_relation : Stm := (sSeq (sFor (sSeq1 srcSeq (eTup [(eVar 0), (eVar 1)])) (gSet 2) (sIf (kNot (eCallP d_is_span [(eVar 2)])) sStuck sNil))
    (sRet (eCallP d_raw_relation [(eVar 0), (eVar 1)])))
def d_relation : Dm := defRun 3 b_relation
def b__law_hand : Stm := (sSeq (sAsg (eFrz (eComp (sSeq1 srcSeq (eFrz (eSlc gCutN (eVar 0) none (some (eC (.int 63)))))) (gSet 2) none (eCall gAbs [(eCall gInt [(eVar 2)])]) [2])) (gSet 1))
    (sRet (eLoc (eArgs [(eVar 1), (eC (.int 0)), (eC (.int 0)), (eBin gAdd (eC (.int 83)) (eBin gMul (eC (.int 7)) (eCall gLen [(eVar 1)]))), (eC (.int 0))]))))
def d__law_hand : Dm := defRun 3 b__law_hand
def b__law_is (self : Dm) : Stm := (sSeq (sIf (eUn (gIsi2 .tup .lst) (eVar 1)) (sSeq (sIf (eBin gNe (eUn (gIsi .tup) (eVar 0)) (eUn (gIsi .tup) (eVar 1))) (sRet (eC (.bl false))) sNil)
    (sSeq (sIf (kOr (eBin gNe (eUn (gIsi .lst) (eVar 0)) (eUn (gIsi .lst) (eVar 1))) (eBin gNe (eCall gLen [(eVar 0)]) (eCall gLen [(eVar 1)]))) (sRet (eC (.bl false))) sNil)
    (sRet (eCall gAll [(eFrz (eComp (sZip [(eVar 0), (eVar 1)]) (gUnp 2 (gsCons (gSet 2) (gsCons (gSet 3) gsNil))) none (eCallP self [(eVar 2), (eVar 3)]) [2, 3]))])))) sNil)
    (sSeq (sIf (kOr (eBin gIs (eVar 1) (eC .non)) (eBin gIs (eVar 0) (eC .non))) (sRet (eAnd (eBin gIs (eVar 1) (eC .non)) (eBin gIs (eVar 0) (eC .non)))) sNil)
    (sSeq (sIf (eBin gNe (eUn (gIsi .bool) (eVar 0)) (eUn (gIsi .bool) (eVar 1))) (sRet (eC (.bl false))) sNil)
    (sRet (eAnd (eBin gEq (eUn (gIsi .str) (eVar 0)) (eUn (gIsi .str) (eVar 1))) (eBin gEq (eVar 0) (eVar 1)))))))
def r__law_is : Nat → Dm
  | 0 => fun _ _ => .stuck
  | n + 1 => defRun 4 (b__law_is (r__law_is n))
def d__law_is : Dm := r__law_is 20
def b_check_relation : Stm := (sIf (kNot (eCallP d_is_within [(eVar 0), (eC (.int 0)), (eC c_MOST_RELATION)])) sStuck sNil)
def d_check_relation : Dm := defRun 1 b_check_relation
def b_turned_relation : Stm := (sSeq (sExpr (eCallP d_check_relation [(eVar 0)]))
    (sRet (eBin gSub (eC c_MOST_RELATION) (eVar 0))))
def d_turned_relation : Dm := defRun 1 b_turned_relation
def b_are_spans : Stm := (sSeq (sIf (kOr (kNot (eUn (gIsi .tup) (eVar 0))) (kNot (eChain gLe gLe (eC c_LEAST_SPANS) (eCall gLen [(eVar 0)]) (eC c_MOST_SPANS)))) (sRet (eC (.bl false))) sNil)
    (sRet (eCall gAll [(eFrz (eComp (sSeq1 srcSeq (eVar 0)) (gSet 1) none (eCallP d_is_span [(eVar 1)]) [1]))])))
def d_are_spans : Dm := defRun 2 b_are_spans
def b_all_ties : Stm := (sRet (eFrz (eComp2 (sRng [(eVar 0)]) (gSet 1) none (sRng [(eBin gAdd (eVar 1) (eC (.int 1))), (eVar 0)]) (gSet 2) none (eTup [(eVar 1), (eVar 2)]) [1, 2] [2])))
def d_all_ties : Dm := defRun 3 b_all_ties
def b_raw_net : Stm := (sRet (eCall gTuple [(eFrz (eComp (sSeq1 srcSeq (eCallP d_all_ties [(eCall gLen [(eVar 0)])])) (gUnp 2 (gsCons (gSet 1) (gsCons (gSet 2) gsNil))) none (eTup [(eCallP d_raw_relation [(eBin gIx (eVar 0) (eVar 1)), (eBin gIx (eVar 0) (eVar 2))])]) [1, 2]))]))
def d_raw_net : Dm := defRun 3 b_raw_net
def b_net_of : Stm := (sSeq (sIf (kNot (eCallP d_are_spans [(eVar 0)])) sStuck sNil)
    (sRet (eCallP d_raw_net [(eVar 0)])))
def d_net_of : Dm := defRun 1 b_net_of
def b__law_draw : Stm := (sSeq (sIf (kAnd (eBin gEq (eBin gIx (eVar 0) (eC (.int 2))) (eC (.int 0))) (eBin gLt (eBin gIx (eVar 0) (eC (.int 1))) (eCall gLen [(eBin gIx (eVar 0) (eC (.int 0)))]))) (sSeq (sAsg (eBin gIx (eBin gIx (eVar 0) (eC (.int 0))) (eBin gIx (eVar 0) (eC (.int 1)))) (gSet 2))
    (sSeq (sAsg (eBin gAdd (eBin gIx (eVar 0) (eC (.int 1))) (eC (.int 1))) (gStore (eVar 0) (eC (.int 1))))
    (sSeq (sAsg (eBin gMod (eCall gInt [(eBin gAdd (eBin gAdd (eBin gMul (eBin gIx (eVar 0) (eC (.int 3))) (eC (.int 69621))) (eVar 2)) (eC (.int 29)))]) (eC (.int 2147483629))) (gStore (eVar 0) (eC (.int 3))))
    (sIf (eBin gGe (eVar 2) (eBin gPow (eC (.int 10)) (eC (.int 18)))) (sAsg (eVar 2) (gStore (eVar 0) (eC (.int 2)))) sNil)))) sNil)
    (sSeq (sIf (eBin gGt (eBin gIx (eVar 0) (eC (.int 2))) (eC (.int 0))) (sSeq (sAsg (eBin gMod (eCall gInt [(eBin gIx (eVar 0) (eC (.int 2)))]) (eVar 1)) (gSet 3))
    (sSeq (sAsg (eBin gDiv (eBin gIx (eVar 0) (eC (.int 2))) (eVar 1)) (gStore (eVar 0) (eC (.int 2))))
    (sRet (eVar 3)))) sNil)
    (sSeq (sAsg (eBin gAdd (eBin gIx (eVar 0) (eC (.int 4))) (eC (.int 1))) (gStore (eVar 0) (eC (.int 4))))
    (sSeq (sAsg (eBin gMod (eCall gInt [(eBin gMul (eCall gInt [(eBin gAdd (eBin gIx (eVar 0) (eC (.int 3))) (eBin gMul (eC (.int 7919)) (eBin gIx (eVar 0) (eC (.int 4)))))]) (eC (.int 48271)))]) (eC (.int 2147483647))) (gSet 4))
    (sSeq (sAsg (eBin gMod (eCall gInt [(eBin gMul (eVar 4) (eBin gAdd (eBin gDiv (eVar 4) (eC (.int 1009))) (eC (.int 69621))))]) (eC (.int 2147483647))) (gSet 4))
    (sSeq (sAsg (eBin gMod (eCall gInt [(eBin gMul (eVar 4) (eBin gAdd (eBin gDiv (eVar 4) (eC (.int 2003))) (eC (.int 40692))))]) (eC (.int 2147483399))) (gSet 4))
    (sRet (eBin gMod (eCall gInt [(eBin gDiv (eVar 4) (eC (.int 16)))]) (eVar 1)))))))))
def d__law_draw : Dm := defRun 5 b__law_draw
def b__law_some : Stm := (sRet (eBin gIx (eVar 1) (eCallD d__law_draw [(eVar 0), (eCall gLen [(eVar 1)])])))
def d__law_some : Dm := defRun 2 b__law_some
def b__law_turned_one : Stm := (sSeq (sIf (eBin gLt (eBin gIx (eVar 1) (eC (.int 1))) (eBin gIx (eVar 0) (eC (.int 0)))) (sRet (eC (.int 0))) sNil)
    (sSeq (sIf (eBin gEq (eBin gIx (eVar 1) (eC (.int 1))) (eBin gIx (eVar 0) (eC (.int 0)))) (sRet (eC (.int 1))) sNil)
    (sSeq (sIf (kAnd (eBin gLt (eBin gIx (eVar 1) (eC (.int 0))) (eBin gIx (eVar 0) (eC (.int 0)))) (eBin gLt (eBin gIx (eVar 1) (eC (.int 1))) (eBin gIx (eVar 0) (eC (.int 1))))) (sRet (eC (.int 2))) sNil)
    (sSeq (sIf (eBin gEq (eBin gIx (eVar 1) (eC (.int 0))) (eBin gIx (eVar 0) (eC (.int 0)))) (sRet (eC (.int 3))) sNil)
    (sRet (eIf (eBin gLt (eBin gIx (eVar 1) (eC (.int 1))) (eBin gIx (eVar 0) (eC (.int 1)))) (eC (.int 4)) (eC (.int 5))))))))
def d__law_turned_one : Dm := defRun 2 b__law_turned_one
def b__law_relation : Stm := (sSeq (sIf (eBin gLt (eBin gIx (eVar 0) (eC (.int 1))) (eBin gIx (eVar 1) (eC (.int 0)))) (sRet (eC (.int 0))) sNil)
    (sSeq (sIf (eBin gEq (eBin gIx (eVar 0) (eC (.int 1))) (eBin gIx (eVar 1) (eC (.int 0)))) (sRet (eC (.int 1))) sNil)
    (sSeq (sIf (kAnd (eBin gLt (eBin gIx (eVar 0) (eC (.int 0))) (eBin gIx (eVar 1) (eC (.int 0)))) (eBin gLt (eBin gIx (eVar 0) (eC (.int 1))) (eBin gIx (eVar 1) (eC (.int 1))))) (sRet (eC (.int 2))) sNil)
    (sSeq (sIf (kAnd (eBin gEq (eBin gIx (eVar 0) (eC (.int 0))) (eBin gIx (eVar 1) (eC (.int 0)))) (eBin gLt (eBin gIx (eVar 0) (eC (.int 1))) (eBin gIx (eVar 1) (eC (.int 1))))) (sRet (eC (.int 3))) sNil)
    (sSeq (sIf (kAnd (eBin gGt (eBin gIx (eVar 0) (eC (.int 0))) (eBin gIx (eVar 1) (eC (.int 0)))) (eBin gLt (eBin gIx (eVar 0) (eC (.int 1))) (eBin gIx (eVar 1) (eC (.int 1))))) (sRet (eC (.int 4))) sNil)
    (sSeq (sIf (kAnd (eBin gGt (eBin gIx (eVar 0) (eC (.int 0))) (eBin gIx (eVar 1) (eC (.int 0)))) (eBin gEq (eBin gIx (eVar 0) (eC (.int 1))) (eBin gIx (eVar 1) (eC (.int 1))))) (sRet (eC (.int 5))) sNil)
    (sRet (eIf (eBin gEq (eVar 0) (eVar 1)) (eC (.int 6)) (eBin gSub (eC (.int 12)) (eCallP d__law_turned_one [(eVar 0), (eVar 1)]))))))))))
def d__law_relation : Dm := defRun 2 b__law_relation
def b__law_spans : Stm := (sSeq (sPar 2 3 [(eCallD d__law_some [(eVar 0), (eFrz (eArgs [(eC (.int 3)), (eC (.int 5)), (eC (.int 9))]))]), (eLoc (eArgs []))])
    (sSeq (sFor (sRng [(eVar 1)]) (gSet 4) (sSeq (sAsg (eCallD d__law_draw [(eVar 0), (eVar 2)]) (gSet 5))
    (sExpr (eMet gAppend (eVar 3) [(eTup [(eVar 5), (eBin gAdd (eBin gAdd (eVar 5) (eC (.int 1))) (eCallD d__law_draw [(eVar 0), (eVar 2)]))])]))))
    (sRet (eCall gTuple [(eVar 3)]))))
def d__law_spans : Dm := defRun 6 b__law_spans
def b__law_pairs : Stm := (sSeq (sAsg (eLoc (eArgs [])) (gSet 1))
    (sSeq (sFor (sRng [(eVar 0)]) (gSet 2) (sExpr (eMet gExtend (eVar 1) [(eFrz (eComp (sRng [(eBin gAdd (eVar 2) (eC (.int 1))), (eVar 0)]) (gSet 3) none (eTup [(eVar 2), (eVar 3)]) [3]))])))
    (sRet (eMove 1))))
def d__law_pairs : Dm := defRun 4 b__law_pairs
def b__law_net : Stm := (sRet (eCall gTuple [(eFrz (eComp (sSeq1 srcSeq (eCallP d__law_pairs [(eCall gLen [(eVar 0)])])) (gUnp 2 (gsCons (gSet 1) (gsCons (gSet 2) gsNil))) none (eTup [(eCallP d__law_relation [(eBin gIx (eVar 0) (eVar 1)), (eBin gIx (eVar 0) (eVar 2))])]) [1, 2]))]))
def d__law_net : Dm := defRun 3 b__law_net
def b__law_is_case_right : Stm := (sSeq (sAsg (eCallD d__law_spans [(eVar 0), (eBin gAdd (eC (.int 2)) (eCallD d__law_draw [(eVar 0), (eC (.int 5))]))]) (gSet 1))
    (sSeq (sAsg (eCallD d__law_some [(eVar 0), (eFrz (eArgs [(eC (.int 0)), (eBin gSub (eC (.int 1000000)) (eC (.int 20))), (eUn gNeg (eC (.int 1000000)))]))]) (gSet 2))
    (sSeq (sAsg (eCall gTuple [(eFrz (eComp (sSeq1 srcSeq (eVar 1)) (gUnp 2 (gsCons (gSet 3) (gsCons (gSet 4) gsNil))) none (eTup [(eBin gAdd (eVar 3) (eVar 2)), (eBin gAdd (eVar 4) (eVar 2))]) [3, 4]))]) (gSet 1))
    (sSeq (sIf (kNot (eCallP d__law_is [(eCallP d_net_of [(eVar 1)]), (eCallP d__law_net [(eVar 1)])])) (sRet (eC (.bl false))) sNil)
    (sSeq (sFor (sSeq1 srcSeq (eVar 1)) (gSet 5) (sFor (sSeq1 srcSeq (eVar 1)) (gSet 6) (sSeq (sAsg (eCallP d_relation [(eVar 5), (eVar 6)]) (gSet 7))
    (sSeq (sIf (kOr (kNot (eCallP d__law_is [(eVar 7), (eCallP d__law_relation [(eVar 5), (eVar 6)])])) (eBin gNe (eCallP d_relation [(eVar 6), (eVar 5)]) (eBin gSub (eC (.int 12)) (eVar 7)))) (sRet (eC (.bl false))) sNil)
    (sIf (kNot (eCallP d__law_is [(eCallP d_turned_relation [(eVar 7)]), (eBin gSub (eC (.int 12)) (eVar 7))])) (sRet (eC (.bl false))) sNil)))))
    (sRet (eC (.bl true))))))))
def d__law_is_case_right : Dm := defRun 8 b__law_is_case_right
def b_law : Stm := (sSeq (sAsg (eLoc (eCallNP d__law_hand [(eVar 0)])) (gSet 1))
    (sSeq (sAsg (eFrz (eArgs [(eCallP d_relation [(eTup [(eC (.int 0)), (eC (.int 1))]), (eTup [(eC (.int 2)), (eC (.int 3))])]), (eCallP d_relation [(eTup [(eC (.int 0)), (eC (.int 2))]), (eTup [(eC (.int 2)), (eC (.int 3))])]), (eCallP d_relation [(eTup [(eC (.int 0)), (eC (.int 2))]), (eTup [(eC (.int 1)), (eC (.int 3))])]), (eCallP d_relation [(eTup [(eC (.int 0)), (eC (.int 1))]), (eTup [(eC (.int 0)), (eC (.int 3))])])])) (gSet 2))
    (sSeq (sAsg (eBin gAdd (eVar 2) (eFrz (eArgs [(eCallP d_relation [(eTup [(eC (.int 1)), (eC (.int 2))]), (eTup [(eC (.int 0)), (eC (.int 3))])]), (eCallP d_relation [(eTup [(eC (.int 1)), (eC (.int 3))]), (eTup [(eC (.int 0)), (eC (.int 3))])]), (eCallP d_relation [(eTup [(eC (.int 0)), (eC (.int 3))]), (eTup [(eC (.int 0)), (eC (.int 3))])])]))) (gSet 2))
    (sSeq (sAsg (eBin gAdd (eVar 2) (eFrz (eArgs [(eCallP d_relation [(eTup [(eC (.int 0)), (eC (.int 3))]), (eTup [(eC (.int 1)), (eC (.int 3))])]), (eCallP d_relation [(eTup [(eC (.int 0)), (eC (.int 3))]), (eTup [(eC (.int 1)), (eC (.int 2))])]), (eCallP d_relation [(eTup [(eC (.int 0)), (eC (.int 3))]), (eTup [(eC (.int 0)), (eC (.int 1))])])]))) (gSet 2))
    (sSeq (sAsg (eBin gAdd (eVar 2) (eFrz (eArgs [(eCallP d_relation [(eTup [(eC (.int 1)), (eC (.int 3))]), (eTup [(eC (.int 0)), (eC (.int 2))])]), (eCallP d_relation [(eTup [(eC (.int 2)), (eC (.int 3))]), (eTup [(eC (.int 0)), (eC (.int 2))])])]))) (gSet 2))
    (sSeq (sIf (kNot (eCallP d__law_is [(eVar 2), (eFrz (eArgs [(eC (.int 0)), (eC (.int 1)), (eC (.int 2)), (eC (.int 3)), (eC (.int 4)), (eC (.int 5)), (eC (.int 6)), (eC (.int 7)), (eC (.int 8)), (eC (.int 9)), (eC (.int 10)), (eC (.int 11))]))])) (sRet (eC (.bl false))) sNil)
    (sRet (eCall gAll [(eFrz (eComp (sRng [(eC (.int 6))]) (gSet 3) none (eCallD d__law_is_case_right [(eVar 1)]) [3]))]))))))))
def d_law : Dm := defRun 4 b_law
end SW

namespace SW
open PySem
theorem u_is_integer (a : Val) (h : PH) : d_is_integer [a] h = fin (b_is_integer [some a] h) := by rw [d_is_integer, defRun_eq]; rfl
theorem u_is_within (a b c : Val) (h : PH) : d_is_within [a, b, c] h = fin (b_is_within [some a, some b, some c] h) := by rw [d_is_within, defRun_eq]; rfl
theorem u_is_stretch (a : Val) (h : PH) : d_is_stretch [a] h = fin (b_is_stretch [some a, none] h) := by rw [d_is_stretch, defRun_eq]; rfl
theorem u_is_span (a : Val) (h : PH) : d_is_span [a] h = fin (b_is_span [some a] h) := by rw [d_is_span, defRun_eq]; rfl
theorem u_compared (a b : Val) (h : PH) : d_compared [a, b] h = fin (b_compared [some a, some b] h) := by rw [d_compared, defRun_eq]; rfl
theorem u_signs_of (a b : Val) (h : PH) : d_signs_of [a, b] h = fin (b_signs_of [some a, some b, none, none] h) := by rw [d_signs_of, defRun_eq]; rfl
theorem u_raw_relation (a b : Val) (h : PH) : d_raw_relation [a, b] h = fin (b_raw_relation [some a, some b] h) := by rw [d_raw_relation, defRun_eq]; rfl
theorem u_relation (a b : Val) (h : PH) : d_relation [a, b] h = fin (b_relation [some a, some b, none] h) := by rw [d_relation, defRun_eq]; rfl
theorem u__law_hand (a : Val) (h : PH) : d__law_hand [a] h = fin (b__law_hand [some a, none, none] h) := by rw [d__law_hand, defRun_eq]; rfl
theorem u__law_is (n : Nat) (a b : Val) (h : PH) : r__law_is (n + 1) [a, b] h = fin (b__law_is (r__law_is n) [some a, some b, none, none] h) := by rw [r__law_is, defRun_eq]; rfl
theorem u_check_relation (a : Val) (h : PH) : d_check_relation [a] h = fin (b_check_relation [some a] h) := by rw [d_check_relation, defRun_eq]; rfl
theorem u_turned_relation (a : Val) (h : PH) : d_turned_relation [a] h = fin (b_turned_relation [some a] h) := by rw [d_turned_relation, defRun_eq]; rfl
theorem u_are_spans (a : Val) (h : PH) : d_are_spans [a] h = fin (b_are_spans [some a, none] h) := by rw [d_are_spans, defRun_eq]; rfl
theorem u_all_ties (a : Val) (h : PH) : d_all_ties [a] h = fin (b_all_ties [some a, none, none] h) := by rw [d_all_ties, defRun_eq]; rfl
theorem u_raw_net (a : Val) (h : PH) : d_raw_net [a] h = fin (b_raw_net [some a, none, none] h) := by rw [d_raw_net, defRun_eq]; rfl
theorem u_net_of (a : Val) (h : PH) : d_net_of [a] h = fin (b_net_of [some a] h) := by rw [d_net_of, defRun_eq]; rfl
theorem u__law_draw (a b : Val) (h : PH) : d__law_draw [a, b] h = fin (b__law_draw [some a, some b, none, none, none] h) := by rw [d__law_draw, defRun_eq]; rfl
theorem u__law_some (a b : Val) (h : PH) : d__law_some [a, b] h = fin (b__law_some [some a, some b] h) := by rw [d__law_some, defRun_eq]; rfl
theorem u__law_turned_one (a b : Val) (h : PH) : d__law_turned_one [a, b] h = fin (b__law_turned_one [some a, some b] h) := by rw [d__law_turned_one, defRun_eq]; rfl
theorem u__law_relation (a b : Val) (h : PH) : d__law_relation [a, b] h = fin (b__law_relation [some a, some b] h) := by rw [d__law_relation, defRun_eq]; rfl
theorem u__law_spans (a b : Val) (h : PH) : d__law_spans [a, b] h = fin (b__law_spans [some a, some b, none, none, none, none] h) := by rw [d__law_spans, defRun_eq]; rfl
theorem u__law_pairs (a : Val) (h : PH) : d__law_pairs [a] h = fin (b__law_pairs [some a, none, none, none] h) := by rw [d__law_pairs, defRun_eq]; rfl
theorem u__law_net (a : Val) (h : PH) : d__law_net [a] h = fin (b__law_net [some a, none, none] h) := by rw [d__law_net, defRun_eq]; rfl
theorem u__law_is_case_right (a : Val) (h : PH) : d__law_is_case_right [a] h = fin (b__law_is_case_right [some a, none, none, none, none, none, none, none] h) := by rw [d__law_is_case_right, defRun_eq]; rfl
theorem u_law (a : Val) (h : PH) : d_law [a] h = fin (b_law [some a, none, none, none] h) := by rw [d_law, defRun_eq]; rfl
end SW

namespace SW
open PySem
theorem draw_ok {hd : Val} {t : PH} {many : Int} (ho : HandOK hd) (h0 : 0 < many) (h1 : many < 1073741824) : ∃ d hd', 0 ≤ d ∧ d < many ∧ HandOK hd' ∧ d__law_draw [.ref 0, .int many] (hd :: t) = .ok (.int d) (hd' :: t) := by
  obtain ⟨cells, a, b, c, e, rfl, hc, ha, hb⟩ := ho
  have ok : ∀ a b c e : Int, 0 ≤ a → 0 ≤ b → HandOK (.lst [.lst (cells.map .int), .int a, .int b, .int c, .int e]) := fun a b c e h1 h2 => ⟨cells, a, b, c, e, rfl, hc, h1, h2⟩
  rw [u__law_draw]
  unfold b__law_draw
  have n1 : ∀ x : Int, 0 ≤ x % many := fun x => Int.emod_nonneg x (by omega)
  have n2 : ∀ x : Int, x % many < many := fun x => Int.emod_lt_of_pos x h0
  by_cases q1 : b = 0
  · by_cases q2 : a < cells.length
    · obtain ⟨x, hx, hx0⟩ : ∃ x, L2.atI (cells.map Val.int) a = some (.int x) ∧ 0 ≤ x := by
        rw [atI_nat ha (by simpa using q2)]
        have hl : a.toNat < cells.length := by omega
        exact ⟨cells[a.toNat], by simp [hl], hc _ (List.getElem_mem hl)⟩
      have d0 : ∀ y : Int, 0 ≤ y → 0 ≤ y / many := fun y hy => Int.ediv_nonneg hy (by omega)
      by_cases q3 : 1000000000000000000 ≤ x
      · have q4 : 0 < x := by omega
        simp (decide := true) [gIx, view, atI0, atI1, atI2, atI3, atI4, gLen, q1, q2, q3, q4, hx, mul_l, mul_r, mod_ii, div_ii, fac_mod, h0, h1, ixN_nat]
        exact ⟨_, n1 _, n2 _, ok _ _ _ _ (by omega) (d0 _ hx0), rfl⟩
      · simp (decide := true) [gIx, view, atI0, atI1, atI2, atI3, atI4, gLen, q1, q2, q3, hx, mul_l, mul_r, mod_ii, div_ii, fac_mod, h0, h1, ixN_nat]
        exact ⟨_, n1 _, n2 _, ok _ _ _ _ (by omega) (by omega), rfl⟩
    · simp (decide := true) [gIx, view, atI0, atI1, atI2, atI3, atI4, gLen, q1, q2, mul_l, mul_r, mod_ii, div_ii, fac_mod, h0, h1, ixN_nat]
      exact ⟨_, n1 _, n2 _, ok _ _ _ _ (by omega) (by omega), rfl⟩
  · have q4 : 0 < b := by omega
    simp (decide := true) [gIx, view, atI0, atI1, atI2, atI3, atI4, gLen, q1, q4, mul_l, mul_r, mod_ii, div_ii, fac_mod, h0, h1, ixN_nat]
    exact ⟨_, n1 _, n2 _, ok _ _ _ _ (by omega) (Int.ediv_nonneg hb (by omega)), rfl⟩
end SW

namespace SW
open PySem
abbrev sp (a b : Int) : Val := .tup [.int a, .int b]
def sg (x y : Int) : Int := (if decide (y < x) = true then 1 else 0) - (if decide (x < y) = true then 1 else 0)
theorem sg_lt {x y : Int} (h : x < y) : sg x y = -1 := by unfold sg; rw [decide_eq_false (by omega), decide_eq_true h]; rfl
theorem sg_eq {x y : Int} (h : x = y) : sg x y = 0 := by unfold sg; rw [decide_eq_false (by omega), decide_eq_false (by omega)]; rfl
theorem sg_gt {x y : Int} (h : y < x) : sg x y = 1 := by unfold sg; rw [decide_eq_true h, decide_eq_false (by omega)]; rfl
theorem m_signs (a b c d : Int) (h : PH) : d_signs_of [sp a b, sp c d] h = .ok (.tup [.int (sg a c), .int (sg a d), .int (sg b c), .int (sg b d)]) h := rfl
def rel (a b c d : Int) : Int := if b < c then 0 else if b = c then 1 else if a < c ∧ b < d then 2 else if a = c ∧ b < d then 3 else if c < a ∧ b < d then 4 else if c < a ∧ b = d then 5 else if a = c ∧ b = d then 6 else
  12 - (if d < a then 0 else if d = a then 1 else if c < a ∧ d < b then 2 else if c = a then 3 else if d < b then 4 else 5)
theorem ix0 (h : PH) : gIndexC l_SIGNS h (.tup [.int (-1), .int (-1), .int (-1), .int (-1)]) = some (.int 0) := rfl
theorem ix1 (h : PH) : gIndexC l_SIGNS h (.tup [.int (-1), .int (-1), .int 0, .int (-1)]) = some (.int 1) := rfl
theorem ix2 (h : PH) : gIndexC l_SIGNS h (.tup [.int (-1), .int (-1), .int 1, .int (-1)]) = some (.int 2) := rfl
theorem ix3 (h : PH) : gIndexC l_SIGNS h (.tup [.int 0, .int (-1), .int 1, .int (-1)]) = some (.int 3) := rfl
theorem ix4 (h : PH) : gIndexC l_SIGNS h (.tup [.int 1, .int (-1), .int 1, .int (-1)]) = some (.int 4) := rfl
theorem ix5 (h : PH) : gIndexC l_SIGNS h (.tup [.int 1, .int (-1), .int 1, .int 0]) = some (.int 5) := rfl
theorem ix6 (h : PH) : gIndexC l_SIGNS h (.tup [.int 0, .int (-1), .int 1, .int 0]) = some (.int 6) := rfl
theorem ix7 (h : PH) : gIndexC l_SIGNS h (.tup [.int (-1), .int (-1), .int 1, .int 0]) = some (.int 7) := rfl
theorem ix8 (h : PH) : gIndexC l_SIGNS h (.tup [.int (-1), .int (-1), .int 1, .int 1]) = some (.int 8) := rfl
theorem ix9 (h : PH) : gIndexC l_SIGNS h (.tup [.int 0, .int (-1), .int 1, .int 1]) = some (.int 9) := rfl
theorem ix10 (h : PH) : gIndexC l_SIGNS h (.tup [.int 1, .int (-1), .int 1, .int 1]) = some (.int 10) := rfl
theorem ix11 (h : PH) : gIndexC l_SIGNS h (.tup [.int 1, .int 0, .int 1, .int 1]) = some (.int 11) := rfl
theorem ix12 (h : PH) : gIndexC l_SIGNS h (.tup [.int 1, .int 1, .int 1, .int 1]) = some (.int 12) := rfl
theorem m_raw {a b c d : Int} (h1 : a < b) (h2 : c < d) (h : PH) : d_raw_relation [sp a b, sp c d] h = .ok (.int (rel a b c d)) h := by
  rw [u_raw_relation]
  unfold b_raw_relation
  have e : apart d_signs_of [sp a b, sp c d] h = .ok (.tup [.int (sg a c), .int (sg a d), .int (sg b c), .int (sg b d)]) h := ap (m_signs a b c d []) rfl rfl
  simp only [x_sret, x_un, x_callP, x_args1, x_args0, x_var, List.getD_cons_zero, List.getD_cons_succ, x_lift, x_bok, e, rel]
  rcases Int.lt_trichotomy a c with q1 | q1 | q1 <;> rcases Int.lt_trichotomy a d with q2 | q2 | q2 <;> rcases Int.lt_trichotomy b c with q3 | q3 | q3 <;> rcases Int.lt_trichotomy b d with q4 | q4 | q4 <;>
    first
    | (exfalso; omega)
    | (first | rw [sg_lt q1] | rw [sg_eq q1] | rw [sg_gt q1]
       first | rw [sg_lt q2] | rw [sg_eq q2] | rw [sg_gt q2]
       first | rw [sg_lt q3] | rw [sg_eq q3] | rw [sg_gt q3]
       first | rw [sg_lt q4] | rw [sg_eq q4] | rw [sg_gt q4]
       first | rw [ix0] | rw [ix1] | rw [ix2] | rw [ix3] | rw [ix4] | rw [ix5] | rw [ix6] | rw [ix7] | rw [ix8] | rw [ix9] | rw [ix10] | rw [ix11] | rw [ix12]
       rw [x_lift, x_bok, x_finr]
       refine congrArg (fun i => Res.ok (Val.int i) h) ?_
       repeat first | rw [if_pos (by omega)] | rw [if_neg (by omega)]
       try rfl)
theorem rel_range {a b c d : Int} (h1 : a < b) (h2 : c < d) : 0 ≤ rel a b c d ∧ rel a b c d ≤ 12 := by
  unfold rel
  repeat' split
  all_goals omega
theorem rel_turn {a b c d : Int} (h1 : a < b) (h2 : c < d) : rel c d a b = 12 - rel a b c d := by
  unfold rel
  rcases Int.lt_trichotomy a c with q1 | q1 | q1 <;> rcases Int.lt_trichotomy a d with q2 | q2 | q2 <;> rcases Int.lt_trichotomy b c with q3 | q3 | q3 <;> rcases Int.lt_trichotomy b d with q4 | q4 | q4 <;>
    first
    | (exfalso; omega)
    | (repeat first | rw [if_pos (by omega)] | rw [if_neg (by omega)]
       try rfl
       try omega)
theorem m_turned1 (a b c d : Int) (h : PH) : d__law_turned_one [sp a b, sp c d] h = .ok (.int (if d < a then 0 else if d = a then 1 else if c < a ∧ d < b then 2 else if c = a then 3 else if d < b then 4 else 5)) h := by
  rw [u__law_turned_one]
  unfold b__law_turned_one
  by_cases p1 : d < a
  · simp [atI0, atI1, p1]
  by_cases p2 : d = a
  · simp [atI0, atI1, p2]
  by_cases p3 : c < a
  · by_cases p4 : d < b
    · simp [atI0, atI1, p1, p2, p3, p4]
    · have p5 : ¬ c = a := by omega
      simp [atI0, atI1, p1, p2, p3, p4, p5]
  by_cases p6 : c = a
  · simp [atI0, atI1, p1, p2, p6]
  by_cases p4 : d < b
  · simp [atI0, atI1, p1, p2, p3, p4, p6]
  · simp [atI0, atI1, p1, p2, p3, p4, p6]
theorem m_lawrel (a b c d : Int) (h : PH) : d__law_relation [sp a b, sp c d] h = .ok (.int (rel a b c d)) h := by
  rw [u__law_relation]
  have e : apart d__law_turned_one [sp a b, sp c d] h = _ := ap (m_turned1 a b c d []) rfl rfl
  have eqs : gEq h (sp a b) (sp c d) = some (.bl (decide (a = c) && decide (b = d))) := by
    simp [gEq, dd, dat, dats, veq, veqs]; rfl
  unfold b__law_relation rel
  by_cases p1 : b < c
  · simp [atI0, atI1, p1]
  by_cases p2 : b = c
  · simp [atI0, atI1, p2]
  by_cases p4 : b < d
  · rcases Int.lt_trichotomy a c with q | q | q
    · simp [atI0, atI1, p1, p2, p4, q]
    · subst q
      simp [atI0, atI1, p1, p2, p4]
    · have q2 : ¬ a < c := by omega
      have q3 : ¬ a = c := by omega
      simp [atI0, atI1, p1, p2, p4, q, q2, q3]
  by_cases p5 : b = d
  · subst p5
    rcases Int.lt_trichotomy a c with q | q | q
    · have q2 : ¬ c < a := by omega
      have q3 : ¬ a = c := by omega
      simp [atI0, atI1, p1, p2, q, q2, q3, eqs, e]
    · subst q
      simp [atI0, atI1, p1, p2, eqs, e]
    · have q2 : ¬ a < c := by omega
      have q3 : ¬ a = c := by omega
      simp [atI0, atI1, p1, p2, q, q2, q3]
  · simp [atI0, atI1, p1, p2, p4, p5, eqs, e]
end SW

namespace SW
open PySem
/-! ### _law_is -/
mutual
theorem dat_free : ∀ (v : Val) (n : Nat), dat v n = true → free v = true
  | .non, _, _ => rfl
  | .bl _, _, _ => rfl
  | .int _, _, _ => rfl
  | .str _, _, _ => rfl
  | .tup xs, n, h => by
    cases n with
    | zero => simp [dat] at h
    | succ n => unfold free; exact dats_frees xs n (by simpa only [dat] using h)
  | .lst xs, n, h => by
    cases n with
    | zero => simp [dat] at h
    | succ n => unfold free; exact dats_frees xs n (by simpa only [dat] using h)
  | .dct _ _, _, h => by simp [dat] at h
  | .ins _ _, _, h => by simp [dat] at h
  | .ref _, _, h => by simp [dat] at h
theorem dats_frees : ∀ (v : List Val) (n : Nat), dats v n = true → frees v = true
  | [], _, _ => rfl
  | x :: xs, n, h => by
    simp only [dats, Bool.and_eq_true] at h
    unfold frees
    rw [dat_free x n h.1, dats_frees xs n h.2]; rfl
end
theorem dats_mem : ∀ {vs : List Val} {n : Nat}, dats vs n = true → ∀ v ∈ vs, dat v n = true
  | x :: xs, n, h, v, hv => by
    simp only [dats, Bool.and_eq_true] at h
    rcases List.mem_cons.mp hv with e | e
    · rw [e]; exact h.1
    · exact dats_mem h.2 v e
theorem dats_of : ∀ {vs : List Val} {n : Nat}, (∀ v ∈ vs, dat v n = true) → dats vs n = true
  | [], _, _ => rfl
  | x :: xs, n, h => by
    simp only [dats, Bool.and_eq_true]
    exact ⟨h x (List.mem_cons_self ..), dats_of fun v hv => h v (List.mem_cons_of_mem _ hv)⟩
theorem zip_same (xs : List Val) : List.zipWith (fun x y => Val.tup [x, y]) xs xs = xs.map fun x => .tup [x, x] := by
  induction xs with
  | nil => rfl
  | cons x xs ih => simp
theorem is_refl : ∀ (n : Nat) (v : Val) (h : PH), dat v n = true → r__law_is (n + 1) [v, v] h = .ok (.bl true) h := by
  intro n
  induction n with
  | zero =>
    intro v h hd
    rw [u__law_is]
    cases v <;> first | (simp [dat] at hd; done) | rfl | (simp [b__law_is, gEq, dd, dat, veq]; done)
  | succ n ih =>
    intro v h hd
    have elt : ∀ xs : List Val, dats xs n = true → ∀ r1 : Ev, compLoop (zipSrc (.tup xs) (.tup xs) (min xs.length xs.length)) (gUnp 2 (gsCons (gSet 2) (gsCons (gSet 3) gsNil))) none (eOne (eCallP (r__law_is (n + 1)) [(eVar 2), (eVar 3)])) [2, 3] (zipSrc (.tup xs) (.tup xs) (min xs.length xs.length)).n 0 [some (.tup xs), some (.tup xs), none, none] h = .ok (xs.map fun _ => .bl true) h := by
      intro xs hx _
      rw [comp_map0 (f := fun _ => .bl true) (walks_zip (by rfl) (by rfl)) fun x hx' => ?_]
      · rw [zip_same]; simp
      · rw [zip_same] at hx'
        obtain ⟨y, hy, rfl⟩ := List.mem_map.mp hx'
        have dy := dats_mem hx y hy
        have fy := dat_free y n dy
        refine ⟨[some (.tup xs), some (.tup xs), some y, some y], by simp, ?_⟩
        have e : apart (r__law_is (n + 1)) [y, y] h = .ok (.bl true) h := ap (ih y [] dy) (by simp [frees, fy]) rfl
        simp [e]
    have eltl : ∀ xs : List Val, dats xs n = true → ∀ r1 : Ev, compLoop (zipSrc (.lst xs) (.lst xs) (min xs.length xs.length)) (gUnp 2 (gsCons (gSet 2) (gsCons (gSet 3) gsNil))) none (eOne (eCallP (r__law_is (n + 1)) [(eVar 2), (eVar 3)])) [2, 3] (zipSrc (.lst xs) (.lst xs) (min xs.length xs.length)).n 0 [some (.lst xs), some (.lst xs), none, none] h = .ok (xs.map fun _ => .bl true) h := by
      intro xs hx _
      rw [comp_map0 (f := fun _ => .bl true) (walks_zip (by rfl) (by rfl)) fun x hx' => ?_]
      · rw [zip_same]; simp
      · rw [zip_same] at hx'
        obtain ⟨y, hy, rfl⟩ := List.mem_map.mp hx'
        have dy := dats_mem hx y hy
        have fy := dat_free y n dy
        refine ⟨[some (.lst xs), some (.lst xs), some y, some y], by simp, ?_⟩
        have e : apart (r__law_is (n + 1)) [y, y] h = .ok (.bl true) h := ap (ih y [] dy) (by simp [frees, fy]) rfl
        simp [e]
    have al : ∀ xs : List Val, gAll h [.lst (xs.map fun _ => .bl true)] = some (.bl true) := fun xs => all_true fun v hv => by
      obtain ⟨_, _, rfl⟩ := List.mem_map.mp hv
      rfl
    rw [u__law_is]
    cases v with
    | tup xs =>
      have q := elt xs (by simpa only [dat] using hd) []
      simp [b__law_is, srcZip, Val.isTup] at q ⊢
      simp [q, al]
    | lst xs =>
      have q := eltl xs (by simpa only [dat] using hd) []
      simp [b__law_is, srcZip, Val.isTup] at q ⊢
      simp [q, al]
    | dct _ _ => simp [dat] at hd
    | ins _ _ => simp [dat] at hd
    | ref _ => simp [dat] at hd
    | non => rfl
    | bl _ => simp [b__law_is, gEq, dd, dat, veq]
    | int _ => simp [b__law_is, gEq, dd, dat, veq]
    | str _ => simp [b__law_is, gEq, dd, dat, veq]
end SW

namespace SW
open PySem
/-! ### spans -/
theorem m_within (i lo hi : Int) (h : PH) : d_is_within [.int i, .int lo, .int hi] h = .ok (.bl (decide (lo ≤ i) && decide (i ≤ hi))) h := by
  rw [u_is_within]
  have e : apart d_is_integer [.int i] h = .ok (.bl true) h := ap (h2 := []) rfl rfl rfl
  by_cases q : lo ≤ i <;> simp [b_is_within, e, q]
structure Okk (a b : Int) : Prop where
  lo : -1000000 ≤ a
  lt : a < b
  hi : b ≤ 1000000
theorem m_stretch {a b : Int} (o : Okk a b) (h : PH) : d_is_stretch [sp a b] h = .ok (.bl true) h := by
  rw [u_is_stretch]
  have el : ∀ x, -1000000 ≤ x → x ≤ 1000000 → apart d_is_within [.int x, .int (-1000000), .int 1000000] h = .ok (.bl true) h := fun x h1 h2 => ap (h2 := []) (by rw [m_within]; simp [h1, h2]) rfl rfl
  have q := comp_map0 (h := h) (r := [some (sp a b), none]) (own := [1]) (g := gSet 1) (elt := eCallP d_is_within [(eVar 1), (eUn gNeg (eC c_MOST_PLACE)), (eC c_MOST_PLACE)]) (f := fun _ => .bl true) (walks_seq (v := sp a b) (xs := [.int a, .int b]) rfl) fun x hx => by
    have := o.lo; have := o.lt; have := o.hi
    rcases List.mem_cons.mp hx with rfl | hx
    · exact ⟨[some (sp a b), some (.int a)], by simp, by simp [c_MOST_PLACE, el a (by omega) (by omega)]⟩
    · rcases List.mem_cons.mp hx with rfl | hx
      · exact ⟨[some (sp a b), some (.int b)], by simp, by simp [c_MOST_PLACE, el b (by omega) (by omega)]⟩
      · cases hx
  have al : gAll h [.lst [.bl true, .bl true]] = some (.bl true) := rfl
  have := o.lt
  have le : a ≤ b := by omega
  simp [b_is_stretch, srcSeq] at q ⊢
  simp [q, al, atI0, atI1, le]
theorem m_span {a b : Int} (o : Okk a b) (h : PH) : d_is_span [sp a b] h = .ok (.bl true) h := by
  rw [u_is_span]
  have e : apart d_is_stretch [sp a b] h = .ok (.bl true) h := ap (m_stretch o []) rfl rfl
  simp [b_is_span, e, atI0, atI1, o.lt]
theorem m_relation {a b c d : Int} (o : Okk a b) (o2 : Okk c d) (h : PH) : d_relation [sp a b, sp c d] h = .ok (.int (rel a b c d)) h := by
  rw [u_relation]
  have e1 : apart d_is_span [sp a b] h = .ok (.bl true) h := ap (m_span o []) rfl rfl
  have e2 : apart d_is_span [sp c d] h = .ok (.bl true) h := ap (m_span o2 []) rfl rfl
  have e3 : apart d_raw_relation [sp a b, sp c d] h = .ok (.int (rel a b c d)) h := ap (m_raw o.lt o2.lt []) rfl rfl
  obtain ⟨r', h', q1, q2⟩ := for_inv (src := liveSrc (.tup [sp a b, sp c d]) 2 fun i ys => ys[i]?) (g := gSet 2) (its := [sp a b, sp c d]) (h := h) (r := [some (sp a b), some (sp c d), none]) (b := (sIf (kNot (eCallP d_is_span [(eVar 2)])) sStuck sNil))
    (fun i r h1 => h1 = h ∧ ∃ z, r = [some (sp a b), some (sp c d), z]) (fun i r h1 _ => walks_seq (v := .tup [sp a b, sp c d]) (xs := [sp a b, sp c d]) rfl) ⟨rfl, none, rfl⟩ (fun i x r h1 hx ⟨eh, z, er⟩ => by
      subst eh er
      have : x = sp a b ∨ x = sp c d := by
        have := List.mem_of_getElem? hx
        simpa using this
      rcases this with rfl | rfl
      · exact ⟨[some (sp a b), some (sp c d), some (sp a b)], _, .inl ⟨by simp [e1], rfl, _, rfl⟩⟩
      · exact ⟨[some (sp a b), some (sp c d), some (sp c d)], _, .inl ⟨by simp [e2], rfl, _, rfl⟩⟩)
  obtain ⟨rfl, z, rfl⟩ := q2
  simp [b_relation, srcSeq] at q1 ⊢
  simp [q1, e3]
theorem m_check {i : Int} (h0 : 0 ≤ i) (h1 : i ≤ 12) (h : PH) : d_check_relation [.int i] h = .ok .non h := by
  rw [u_check_relation]
  have e : apart d_is_within [.int i, .int 0, .int 12] h = .ok (.bl true) h := ap (h2 := []) (by rw [m_within]; simp [h0, h1]) rfl rfl
  simp [b_check_relation, c_MOST_RELATION, e]
theorem m_turned {i : Int} (h0 : 0 ≤ i) (h1 : i ≤ 12) (h : PH) : d_turned_relation [.int i] h = .ok (.int (12 - i)) h := by
  rw [u_turned_relation]
  have e : apart d_check_relation [.int i] h = .ok .non h := ap (m_check h0 h1 []) rfl rfl
  simp [b_turned_relation, c_MOST_RELATION, e]
/-! ### nets -/
abbrev enc (S : List (Int × Int)) : Val := .tup (S.map fun p => sp p.1 p.2)
def okT (n : Nat) : Val → Bool
  | .tup [.int i, .int j] => decide (0 ≤ i) && decide (i < n) && decide (0 ≤ j) && decide (j < n)
  | _ => false
theorem okT_is {n : Nat} {t : Val} (h : okT n t = true) : ∃ i j : Nat, t = .tup [.int i, .int j] ∧ i < n ∧ j < n := by
  unfold okT at h
  split at h
  · rename_i i j
    simp only [Bool.and_eq_true, decide_eq_true_eq] at h
    refine ⟨i.toNat, j.toNat, ?_, by omega, by omega⟩
    rw [Int.toNat_of_nonneg h.1.1.1, Int.toNat_of_nonneg h.1.2]
  · cases h
def ts2 : List Val := [.tup [.int 0, .int 1]]
theorem ti2 : d_all_ties [.int 2] [] = .ok (.lst ts2) [] := by rfl
theorem tj2 : d__law_pairs [.int 2] [] = .ok (.lst ts2) [.non] := by rfl
theorem tk2 : ts2.all (okT 2) = true := by decide
def ts3 : List Val := [.tup [.int 0, .int 1], .tup [.int 0, .int 2], .tup [.int 1, .int 2]]
theorem ti3 : d_all_ties [.int 3] [] = .ok (.lst ts3) [] := by rfl
theorem tj3 : d__law_pairs [.int 3] [] = .ok (.lst ts3) [.non] := by rfl
theorem tk3 : ts3.all (okT 3) = true := by decide
def ts4 : List Val := [.tup [.int 0, .int 1], .tup [.int 0, .int 2], .tup [.int 0, .int 3], .tup [.int 1, .int 2], .tup [.int 1, .int 3], .tup [.int 2, .int 3]]
theorem ti4 : d_all_ties [.int 4] [] = .ok (.lst ts4) [] := by rfl
theorem tj4 : d__law_pairs [.int 4] [] = .ok (.lst ts4) [.non] := by rfl
theorem tk4 : ts4.all (okT 4) = true := by decide
def ts5 : List Val := [.tup [.int 0, .int 1], .tup [.int 0, .int 2], .tup [.int 0, .int 3], .tup [.int 0, .int 4], .tup [.int 1, .int 2], .tup [.int 1, .int 3], .tup [.int 1, .int 4], .tup [.int 2, .int 3], .tup [.int 2, .int 4], .tup [.int 3, .int 4]]
theorem ti5 : d_all_ties [.int 5] [] = .ok (.lst ts5) [] := by rfl
theorem tj5 : d__law_pairs [.int 5] [] = .ok (.lst ts5) [.non] := by rfl
theorem tk5 : ts5.all (okT 5) = true := by decide
def ts6 : List Val := [.tup [.int 0, .int 1], .tup [.int 0, .int 2], .tup [.int 0, .int 3], .tup [.int 0, .int 4], .tup [.int 0, .int 5], .tup [.int 1, .int 2], .tup [.int 1, .int 3], .tup [.int 1, .int 4], .tup [.int 1, .int 5], .tup [.int 2, .int 3], .tup [.int 2, .int 4], .tup [.int 2, .int 5], .tup [.int 3, .int 4], .tup [.int 3, .int 5], .tup [.int 4, .int 5]]
theorem ti6 : d_all_ties [.int 6] [] = .ok (.lst ts6) [] := by rfl
theorem tj6 : d__law_pairs [.int 6] [] = .ok (.lst ts6) [.non] := by rfl
theorem tk6 : ts6.all (okT 6) = true := by decide
theorem m_ties {n : Nat} (h1 : 2 ≤ n) (h2 : n ≤ 6) : ∃ ts, d_all_ties [.int n] [] = .ok (.lst ts) [] ∧ (∃ h2, d__law_pairs [.int n] [] = .ok (.lst ts) h2) ∧ ts.all (okT n) = true := by
  have : n = 2 ∨ n = 3 ∨ n = 4 ∨ n = 5 ∨ n = 6 := by omega
  rcases this with rfl | rfl | rfl | rfl | rfl
  · exact ⟨ts2, ti2, ⟨_, tj2⟩, tk2⟩
  · exact ⟨ts3, ti3, ⟨_, tj3⟩, tk3⟩
  · exact ⟨ts4, ti4, ⟨_, tj4⟩, tk4⟩
  · exact ⟨ts5, ti5, ⟨_, tj5⟩, tk5⟩
  · exact ⟨ts6, ti6, ⟨_, tj6⟩, tk6⟩
def netF (S : List (Int × Int)) : Val → Val
  | .tup [.int i, .int j] => (match S[i.toNat]?, S[j.toNat]? with | some p, some q => .tup [.int (rel p.1 p.2 q.1 q.2)] | _, _ => .non)
  | _ => .non
theorem okT_free {n : Nat} {t : Val} (h : okT n t = true) : free t = true := by
  obtain ⟨i, j, rfl, _, _⟩ := okT_is h
  rfl
theorem frees_of {vs : List Val} (h : ∀ v ∈ vs, free v = true) : frees vs = true := by
  rw [frees_all, List.all_eq_true]; exact h
theorem enc_free (S : List (Int × Int)) : free (enc S) = true := by
  unfold enc free
  exact frees_of fun v hv => by
    obtain ⟨p, _, rfl⟩ := List.mem_map.mp hv
    rfl
theorem enc_get {S : List (Int × Int)} (i : Nat) (hi : i < S.length) : ∃ p, S[i]? = some p ∧ p ∈ S ∧ L2.atI (S.map fun p => sp p.1 p.2) (i : Int) = some (sp p.1 p.2) := by
  refine ⟨S[i], List.getElem?_eq_getElem hi, List.getElem_mem hi, ?_⟩
  rw [atI_nat (by omega) (by simpa using hi)]
  simp [hi]
theorem net1 {S : List (Int × Int)} (hS : ∀ p ∈ S, Okk p.1 p.2) {ts : List Val} (e3 : ∀ x ∈ ts, okT S.length x = true) (h : PH) (a1 : apart d_all_ties [.int S.length] h = .ok (.lst ts) h) : d_raw_net [enc S] h = .ok (.tup (ts.map (netF S))) h := by
  have q1 := comp_map0 (h := h) (r := [some (enc S), none, none]) (own := [1, 2]) (g := gUnp 2 (gsCons (gSet 1) (gsCons (gSet 2) gsNil))) (elt := eTup [(eCallP d_raw_relation [(eBin gIx (eVar 0) (eVar 1)), (eBin gIx (eVar 0) (eVar 2))])]) (f := netF S) (walks_seq (v := .lst ts) (xs := ts) rfl) fun x hx => by
    obtain ⟨i, j, rfl, hi, hj⟩ := okT_is (e3 x hx)
    obtain ⟨p, p1, p2, p3⟩ := enc_get i hi
    obtain ⟨q, q1, q2, q3⟩ := enc_get j hj
    have a3 : apart d_raw_relation [sp p.1 p.2, sp q.1 q.2] h = .ok (.int (rel p.1 p.2 q.1 q.2)) h := ap (m_raw (hS p p2).lt (hS q q2).lt []) rfl rfl
    exact ⟨[some (enc S), some (.int i), some (.int j)], by simp, by simp [p3, q3, a3, netF, p1, q1]⟩
  rw [u_raw_net]
  simp [b_raw_net, srcSeq, a1] at q1 ⊢
  simp [q1]
theorem net2 {S : List (Int × Int)} {ts : List Val} (e3 : ∀ x ∈ ts, okT S.length x = true) (h : PH) (a2 : apart d__law_pairs [.int S.length] h = .ok (.lst ts) h) : d__law_net [enc S] h = .ok (.tup (ts.map (netF S))) h := by
  have q2 := comp_map0 (h := h) (r := [some (enc S), none, none]) (own := [1, 2]) (g := gUnp 2 (gsCons (gSet 1) (gsCons (gSet 2) gsNil))) (elt := eTup [(eCallP d__law_relation [(eBin gIx (eVar 0) (eVar 1)), (eBin gIx (eVar 0) (eVar 2))])]) (f := netF S) (walks_seq (v := .lst ts) (xs := ts) rfl) fun x hx => by
    obtain ⟨i, j, rfl, hi, hj⟩ := okT_is (e3 x hx)
    obtain ⟨p, p1, p2, p3⟩ := enc_get i hi
    obtain ⟨q, q1, q2, q3⟩ := enc_get j hj
    have a3 : apart d__law_relation [sp p.1 p.2, sp q.1 q.2] h = .ok (.int (rel p.1 p.2 q.1 q.2)) h := ap (m_lawrel p.1 p.2 q.1 q.2 []) rfl rfl
    exact ⟨[some (enc S), some (.int i), some (.int j)], by simp, by simp [p3, q3, a3, netF, p1, q1]⟩
  rw [u__law_net]
  simp [b__law_net, srcSeq, a2] at q2 ⊢
  simp [q2]
theorem net3 {S : List (Int × Int)} {ts : List Val} (e3 : ∀ x ∈ ts, okT S.length x = true) : dat (.tup (ts.map (netF S))) 10 = true := by
  show dats (ts.map (netF S)) 9 = true
  refine dats_of fun v hv => ?_
  obtain ⟨t, ht, rfl⟩ := List.mem_map.mp hv
  obtain ⟨i, j, rfl, hi, hj⟩ := okT_is (e3 t ht)
  obtain ⟨p, p1, p2, p3⟩ := enc_get i hi
  obtain ⟨q, q1, q2, q3⟩ := enc_get j hj
  simp [netF, p1, q1, dat, dats]
theorem m_net {S : List (Int × Int)} (hS : ∀ p ∈ S, Okk p.1 p.2) (h1 : 2 ≤ S.length) (h2 : S.length ≤ 6) : ∃ N, dat N 10 = true ∧ ∀ h, d_raw_net [enc S] h = .ok N h ∧ d__law_net [enc S] h = .ok N h := by
  obtain ⟨ts, e1, ⟨h', e2⟩, e3⟩ := m_ties h1 h2
  rw [List.all_eq_true] at e3
  have ft : frees ts = true := frees_of fun v hv => okT_free (e3 v hv)
  exact ⟨_, net3 e3, fun h => ⟨net1 hS e3 h (ap e1 rfl ft), net2 e3 h (ap e2 rfl ft)⟩⟩
theorem m_are_spans {S : List (Int × Int)} (hS : ∀ p ∈ S, Okk p.1 p.2) (h1 : 2 ≤ S.length) (h2 : S.length ≤ 6) (h : PH) : d_are_spans [enc S] h = .ok (.bl true) h := by
  rw [u_are_spans]
  have q := comp_map0 (h := h) (r := [some (enc S), none]) (own := [1]) (g := gSet 1) (elt := eCallP d_is_span [(eVar 1)]) (f := fun _ => .bl true) (walks_seq (v := enc S) (xs := S.map fun p => sp p.1 p.2) rfl) fun x hx => by
    obtain ⟨p, hp, rfl⟩ := List.mem_map.mp hx
    have e : apart d_is_span [sp p.1 p.2] h = .ok (.bl true) h := ap (m_span (hS p hp) []) rfl rfl
    exact ⟨[some (enc S), some (sp p.1 p.2)], by simp, by simp [e]⟩
  have al : gAll h [.lst (S.map fun _ => .bl true)] = some (.bl true) := all_true fun v hv => by
    obtain ⟨_, _, rfl⟩ := List.mem_map.mp hv
    rfl
  have g1 : (2 : Int) ≤ S.length := by omega
  have g2 : (S.length : Int) ≤ 6 := by omega
  simp [b_are_spans, srcSeq, c_LEAST_SPANS, c_MOST_SPANS, g1, g2] at q ⊢
  simp [q, Function.comp_def, al]
theorem m_net_of {S : List (Int × Int)} (hS : ∀ p ∈ S, Okk p.1 p.2) (h1 : 2 ≤ S.length) (h2 : S.length ≤ 6) : ∃ N, dat N 10 = true ∧ ∀ h, d_net_of [enc S] h = .ok N h ∧ d__law_net [enc S] h = .ok N h := by
  obtain ⟨N, n3, n1⟩ := m_net hS h1 h2
  refine ⟨N, n3, fun h => ⟨?_, (n1 h).2⟩⟩
  rw [u_net_of]
  have fe : frees [enc S] = true := by unfold frees; rw [enc_free]; rfl
  have e1 : apart d_are_spans [enc S] h = .ok (.bl true) h := ap (m_are_spans hS h1 h2 []) fe rfl
  have e2 : apart d_raw_net [enc S] h = .ok N h := ap (n1 []).1 fe (dat_free _ _ n3)
  simp [b_net_of, e1, e2]
end SW

namespace SW
open PySem
theorem m_some {hd : Val} {t : PH} {xs : List Val} (ho : HandOK hd) (h0 : xs ≠ []) (h1 : xs.length < 1073741824) : ∃ v hd', v ∈ xs ∧ HandOK hd' ∧ d__law_some [.ref 0, .lst xs] (hd :: t) = .ok v (hd' :: t) := by
  have hl : 0 < xs.length := List.length_pos_iff.mpr h0
  obtain ⟨d, hd', d0, d1, d2, d3⟩ := draw_ok (t := t) (many := xs.length) ho (by omega) (by omega)
  have hi : d.toNat < xs.length := by omega
  refine ⟨xs[d.toNat], hd', List.getElem_mem hi, d2, ?_⟩
  rw [u__law_some]
  simp [b__law_some, d3, atI_nat d0 (show d < xs.length by omega), hi]
/-- small spans -/
structure Small (p : Int × Int) : Prop where
  lo : 0 ≤ p.1
  lt : p.1 < p.2
  hi : p.2 ≤ 17
theorem m_spans {hd : Val} {t : PH} {n : Nat} (ho : HandOK hd) (hn : n ≤ 6) : ∃ S : List (Int × Int), ∃ hd' t', S.length = n ∧ (∀ p ∈ S, Small p) ∧ HandOK hd' ∧ d__law_spans [.ref 0, .int n] (hd :: t) = .ok (enc S) (hd' :: t') := by
  obtain ⟨v, hd1, v1, v2, v3⟩ := m_some (t := t) (xs := [.int 3, .int 5, .int 9]) ho (by simp) (by simp)
  obtain ⟨most, rfl, m0, m1⟩ : ∃ i : Int, v = .int i ∧ 3 ≤ i ∧ i ≤ 9 := by
    simp at v1
    rcases v1 with rfl | rfl | rfl
    · exact ⟨3, rfl, by omega, by omega⟩
    · exact ⟨5, rfl, by omega, by omega⟩
    · exact ⟨9, rfl, by omega, by omega⟩
  let I : Nat → Ev → PH → Prop := fun i r h => ∃ (S : List (Int × Int)) (hd' : Val) (z4 z5 : Option Val), S.length = i ∧ (∀ p ∈ S, Small p) ∧ HandOK hd' ∧ r = [some (.ref 0), some (.int n), some (.int most), some (.ref (t.length + 1)), z4, z5] ∧ h = hd' :: (t ++ [.lst (S.map fun p => sp p.1 p.2)])
  have e0 : I 0 [some (.ref 0), some (.int n), some (.int most), some (.ref (t.length + 1)), none, none] (hd1 :: (t ++ [.lst []])) := ⟨[], hd1, none, none, rfl, (fun p hp => nomatch hp), v2, rfl, rfl⟩
  obtain ⟨r', h', q1, S, hd', z4, z5, s1, s2, s3, s4, s5⟩ := for_inv (src := srcUp 0 n) (g := gSet 4) (its := (List.range n).map fun i => .int (0 + (i : Nat))) (h := hd1 :: (t ++ [.lst []])) (r := [some (.ref 0), some (.int n), some (.int most), some (.ref (t.length + 1)), none, none])
    (b := (sSeq (sAsg (eCallD d__law_draw [(eVar 0), (eVar 2)]) (gSet 5))
    (sExpr (eMet gAppend (eVar 3) [(eTup [(eVar 5), (eBin gAdd (eBin gAdd (eVar 5) (eC (.int 1))) (eCallD d__law_draw [(eVar 0), (eVar 2)]))])]))))
    I (fun i r h _ => walks_up) e0 (fun i x r h hx ⟨S, hd', z4, z5, s1, s2, s3, er, eh⟩ => by
      subst er eh
      have hi : i < n := by
        have := (List.getElem?_eq_some_iff.mp hx).1
        simpa using this
      obtain ⟨a, hd2, a0, a1, a2, a3⟩ := draw_ok (t := t ++ [.lst (S.map fun p => sp p.1 p.2)]) (many := most) s3 (by omega) (by omega)
      obtain ⟨b, hd3, b0, b1, b2, b3⟩ := draw_ok (t := t ++ [.lst (S.map fun p => sp p.1 p.2)]) (many := most) a2 (by omega) (by omega)
      refine ⟨[some (.ref 0), some (.int n), some (.int most), some (.ref (t.length + 1)), some x, some (.int a)], hd3 :: (t ++ [.lst ((S ++ [(a, a + 1 + b)]).map fun p => sp p.1 p.2)]), .inl ⟨?_, S ++ [(a, a + 1 + b)], hd3, some x, some (.int a), by simp [s1], ?_, b2, rfl, rfl⟩⟩
      · have lb : S.length < 1000000 := by omega
        simp [a3, b3, gAppend, lb]
      · intro p hp
        rcases List.mem_append.mp hp with hp | hp
        · exact s2 p hp
        · simp at hp
          subst hp
          exact ⟨a0, by show a < a + 1 + b; omega, by show a + 1 + b ≤ 17; omega⟩)
  refine ⟨S, hd', t ++ [.lst (S.map fun p => sp p.1 p.2)], by simpa using s1, s2, s3, ?_⟩
  subst s4 s5
  have g1 : sml (n : Int) = true := by simp [sml]; omega
  have g2 : (n : Int) ≤ 1000000 := by omega
  rw [u__law_spans]
  have g3 : (n : Int) < 4611686018427387904 := by omega
  simp [b__law_spans, v3, srcR, g2, g3] at q1 ⊢
  simp [q1, gTuple, view]
/-! ### a case -/
mutual
theorem dat_mono : ∀ {v : Val} {n m : Nat}, dat v n = true → n ≤ m → dat v m = true
  | .non, _, _, _, _ => rfl
  | .bl _, _, _, _, _ => rfl
  | .int _, _, _, _, _ => rfl
  | .str _, _, _, _, _ => rfl
  | .tup xs, n, m, h, l => by
    cases n with
    | zero => simp [dat] at h
    | succ n =>
      obtain ⟨k, rfl⟩ : ∃ k, m = k + 1 := ⟨m - 1, by omega⟩
      simp only [dat] at h ⊢
      exact dats_mono h (by omega)
  | .lst xs, n, m, h, l => by
    cases n with
    | zero => simp [dat] at h
    | succ n =>
      obtain ⟨k, rfl⟩ : ∃ k, m = k + 1 := ⟨m - 1, by omega⟩
      simp only [dat] at h ⊢
      exact dats_mono h (by omega)
  | .dct _ _, _, _, h, _ => by simp [dat] at h
  | .ins _ _, _, _, h, _ => by simp [dat] at h
  | .ref _, _, _, h, _ => by simp [dat] at h
theorem dats_mono : ∀ {vs : List Val} {n m : Nat}, dats vs n = true → n ≤ m → dats vs m = true
  | [], _, _, _, _ => rfl
  | x :: xs, n, m, h, l => by
    simp only [dats, Bool.and_eq_true] at h ⊢
    exact ⟨dat_mono h.1 l, dats_mono h.2 l⟩
end
theorem okk_of {p : Int × Int} (s : Small p) {far : Int} (h : far = 0 ∨ far = 999980 ∨ far = -1000000) : Okk (p.1 + far) (p.2 + far) := by
  have := s.lo; have := s.lt; have := s.hi
  exact ⟨by omega, by omega, by omega⟩
theorem m_case {hd : Val} {t : PH} (ho : HandOK hd) : ∃ hd' t', HandOK hd' ∧ d__law_is_case_right [.ref 0] (hd :: t) = .ok (.bl true) (hd' :: t') := by
  obtain ⟨d, hd1, d0, d1, d2, d3⟩ := draw_ok (t := t) (many := 5) ho (by omega) (by omega)
  obtain ⟨S, hd2, t2, s1, s2, s3, s4⟩ := m_spans (t := t) (n := (2 + d).toNat) d2 (by omega)
  rw [show (((2 + d).toNat : Nat) : Int) = 2 + d by omega] at s4
  obtain ⟨v, hd3, v1, v2, v3⟩ := m_some (t := t2) (xs := [.int 0, .int 999980, .int (-1000000)]) s3 (by simp) (by simp)
  obtain ⟨far, rfl, hf⟩ : ∃ i : Int, v = .int i ∧ (i = 0 ∨ i = 999980 ∨ i = -1000000) := by
    simp at v1
    rcases v1 with rfl | rfl | rfl
    · exact ⟨_, rfl, .inl rfl⟩
    · exact ⟨_, rfl, .inr (.inl rfl)⟩
    · exact ⟨_, rfl, .inr (.inr rfl)⟩
  obtain ⟨S', eS⟩ : ∃ S' : List (Int × Int), S' = S.map fun p => (p.1 + far, p.2 + far) := ⟨_, rfl⟩
  have hS : ∀ p ∈ S', Okk p.1 p.2 := fun p hp => by
    rw [eS] at hp
    obtain ⟨q, hq, rfl⟩ := List.mem_map.mp hp
    exact okk_of (s2 q hq) hf
  have hl : S'.length = S.length := by simp [eS]
  obtain ⟨N, n1, n2⟩ := m_net_of hS (by omega) (by omega)
  obtain ⟨h, eh⟩ : ∃ h : PH, h = hd3 :: t2 := ⟨_, rfl⟩
  have fe : frees [enc S'] = true := by unfold frees; rw [enc_free]; rfl
  have a1 : apart d_net_of [enc S'] h = .ok N h := ap (n2 []).1 fe (dat_free _ _ n1)
  have a2 : apart d__law_net [enc S'] h = .ok N h := ap (n2 []).2 fe (dat_free _ _ n1)
  have a3 : apart d__law_is [N, N] h = .ok (.bl true) h := ap (is_refl 19 N [] (dat_mono n1 (by omega))) (by unfold frees frees; rw [dat_free _ _ n1]; rfl) rfl
  have q0 := comp_map0 (h := h) (r := [some (.ref 0), some (enc S), some (.int far), none, none, none, none, none]) (own := [3, 4]) (g := gUnp 2 (gsCons (gSet 3) (gsCons (gSet 4) gsNil))) (elt := eTup [(eBin gAdd (eVar 3) (eVar 2)), (eBin gAdd (eVar 4) (eVar 2))])
    (f := fun v => match v with | .tup [.int a, .int b] => sp (a + far) (b + far) | _ => .non) (walks_seq (v := enc S) (xs := S.map fun p => sp p.1 p.2) rfl) fun x hx => by
      obtain ⟨p, hp, rfl⟩ := List.mem_map.mp hx
      exact ⟨[some (.ref 0), some (enc S), some (.int far), some (.int p.1), some (.int p.2), none, none, none], by simp, by simp⟩
  have q1 : (S.map fun p => sp p.1 p.2).map (fun v => match v with | .tup [.int a, .int b] => sp (a + far) (b + far) | _ => .non) = S'.map fun p => sp p.1 p.2 := by simp [eS]
  rw [q1] at q0
  have pair : ∀ p ∈ S', ∀ q ∈ S', ∀ z6 z7 : Option Val, (((gSet 6 (sp q.1 q.2) [some (.ref 0), some (enc S'), some (.int far), none, none, some (sp p.1 p.2), z6, z7] h)).bind fun r1 h1 => (sSeq (sAsg (eCallP d_relation [(eVar 5), (eVar 6)]) (gSet 7))
    (sSeq (sIf (kOr (kNot (eCallP d__law_is [(eVar 7), (eCallP d__law_relation [(eVar 5), (eVar 6)])])) (eBin gNe (eCallP d_relation [(eVar 6), (eVar 5)]) (eBin gSub (eC (.int 12)) (eVar 7)))) (sRet (eC (.bl false))) sNil)
    (sIf (kNot (eCallP d__law_is [(eCallP d_turned_relation [(eVar 7)]), (eBin gSub (eC (.int 12)) (eVar 7))])) (sRet (eC (.bl false))) sNil))) r1 h1) = .ok (.nx [some (.ref 0), some (enc S'), some (.int far), none, none, some (sp p.1 p.2), some (sp q.1 q.2), some (.int (rel p.1 p.2 q.1 q.2))]) h := by
    intro p hp q hq z6 z7
    have op := hS p hp
    have oq := hS q hq
    have rr := rel_range op.lt oq.lt
    have b1 : apart d_relation [sp p.1 p.2, sp q.1 q.2] h = .ok (.int (rel p.1 p.2 q.1 q.2)) h := ap (m_relation op oq []) rfl rfl
    have b2 : apart d__law_relation [sp p.1 p.2, sp q.1 q.2] h = .ok (.int (rel p.1 p.2 q.1 q.2)) h := ap (m_lawrel p.1 p.2 q.1 q.2 []) rfl rfl
    have b3 : ∀ i : Int, apart d__law_is [.int i, .int i] h = .ok (.bl true) h := fun i => ap (is_refl 19 (.int i) [] rfl) rfl rfl
    have b4 : apart d_relation [sp q.1 q.2, sp p.1 p.2] h = .ok (.int (12 - rel p.1 p.2 q.1 q.2)) h := ap (by rw [m_relation oq op [], rel_turn op.lt oq.lt]) rfl rfl
    have b5 : apart d_turned_relation [.int (rel p.1 p.2 q.1 q.2)] h = .ok (.int (12 - rel p.1 p.2 q.1 q.2)) h := ap (m_turned rr.1 rr.2 []) rfl rfl
    simp [b1, b2, b3, b4, b5]
  have inner : ∀ p ∈ S', ∀ z6 z7 : Option Val, ∃ y6 y7 : Option Val, forLoop (liveSrc (enc S') (S'.map fun p => sp p.1 p.2).length fun i ys => ys[i]?) (gSet 6) (sSeq (sAsg (eCallP d_relation [(eVar 5), (eVar 6)]) (gSet 7))
    (sSeq (sIf (kOr (kNot (eCallP d__law_is [(eVar 7), (eCallP d__law_relation [(eVar 5), (eVar 6)])])) (eBin gNe (eCallP d_relation [(eVar 6), (eVar 5)]) (eBin gSub (eC (.int 12)) (eVar 7)))) (sRet (eC (.bl false))) sNil)
    (sIf (kNot (eCallP d__law_is [(eCallP d_turned_relation [(eVar 7)]), (eBin gSub (eC (.int 12)) (eVar 7))])) (sRet (eC (.bl false))) sNil))) (liveSrc (enc S') (S'.map fun p => sp p.1 p.2).length fun i ys => ys[i]?).n 0 [some (.ref 0), some (enc S'), some (.int far), none, none, some (sp p.1 p.2), z6, z7] h =
      .ok (.nx [some (.ref 0), some (enc S'), some (.int far), none, none, some (sp p.1 p.2), y6, y7]) h := by
    intro p hp z6 z7
    obtain ⟨r', h', e1, e2, y6, y7, e3⟩ := for_inv (fun i r h1 => h1 = h ∧ ∃ z6 z7 : Option Val, r = [some (.ref 0), some (enc S'), some (.int far), none, none, some (sp p.1 p.2), z6, z7]) (fun i r h1 _ => walks_seq (v := enc S') (xs := S'.map fun p => sp p.1 p.2) rfl) ⟨rfl, z6, z7, rfl⟩
      (fun i x r h1 hx ⟨eh, z6, z7, er⟩ => by
        subst eh er
        obtain ⟨q, hq, rfl⟩ := List.mem_map.mp (List.mem_of_getElem? hx)
        exact ⟨_, _, .inl ⟨pair p hp q hq z6 z7, rfl, _, _, rfl⟩⟩)
    subst e2 e3
    exact ⟨y6, y7, e1⟩
  obtain ⟨r', h', e1, e2, y5, y6, y7, e3⟩ := for_inv (src := liveSrc (enc S') (S'.map fun p => sp p.1 p.2).length fun i ys => ys[i]?) (g := gSet 5) (h := h) (r := [some (.ref 0), some (enc S'), some (.int far), none, none, none, none, none])
    (b := (sFor (sSeq1 srcSeq (eVar 1)) (gSet 6) (sSeq (sAsg (eCallP d_relation [(eVar 5), (eVar 6)]) (gSet 7))
    (sSeq (sIf (kOr (kNot (eCallP d__law_is [(eVar 7), (eCallP d__law_relation [(eVar 5), (eVar 6)])])) (eBin gNe (eCallP d_relation [(eVar 6), (eVar 5)]) (eBin gSub (eC (.int 12)) (eVar 7)))) (sRet (eC (.bl false))) sNil)
    (sIf (kNot (eCallP d__law_is [(eCallP d_turned_relation [(eVar 7)]), (eBin gSub (eC (.int 12)) (eVar 7))])) (sRet (eC (.bl false))) sNil)))))
    (fun i r h1 => h1 = h ∧ ∃ z5 z6 z7 : Option Val, r = [some (.ref 0), some (enc S'), some (.int far), none, none, z5, z6, z7]) (fun i r h1 _ => walks_seq (v := enc S') (xs := S'.map fun p => sp p.1 p.2) rfl) ⟨rfl, none, none, none, rfl⟩
      (fun i x r h1 hx ⟨eh, z5, z6, z7, er⟩ => by
        subst eh er
        obtain ⟨p, hp, rfl⟩ := List.mem_map.mp (List.mem_of_getElem? hx)
        obtain ⟨y6, y7, e⟩ := inner p hp z6 z7
        refine ⟨[some (.ref 0), some (enc S'), some (.int far), none, none, some (sp p.1 p.2), y6, y7], _, .inl ⟨?_, rfl, _, y6, y7, rfl⟩⟩
        rw [x_gset, x_bok, x_sfor, x_seq1]
        simp only [List.set_cons_succ, List.set_cons_zero, x_var, List.getD_cons_succ, List.getD_cons_zero, x_lift, x_bok, srcSeq, seqAt_tup]
        exact e)
  rw [e2, e3] at e1
  rw [eh] at q0 a1 a2 a3 e1
  refine ⟨hd3, t2, v2, ?_⟩
  rw [u__law_is_case_right]
  simp [b__law_is_case_right, d3, s4, v3, srcSeq] at q0 e1 a1 a2 a3 ⊢
  simp [q0, e1, a1, a2, a3, srcSeq]
end SW

namespace SW
open PySem
theorem m_hand (ns : List Int) : ∃ xs, HandOK (.lst xs) ∧ frees xs = true ∧ d__law_hand [.ins 0 (ns.map Val.int)] [] = .ok (.ref 0) [.lst xs] := by
  obtain ⟨cs, hc⟩ : ∃ cs, cs = cutL (ns.map Val.int) none (some 63) := ⟨_, rfl⟩
  have hcs : ∀ x ∈ cs, ∃ i : Int, x = .int i := fun x hx => by
    rw [hc] at hx
    have := List.mem_of_mem_drop (List.mem_of_mem_take hx)
    obtain ⟨i, _, rfl⟩ := List.mem_map.mp this
    exact ⟨i, rfl⟩
  let f : Val → Val := fun v => match v with | .int i => .int (if i < 0 then -i else i) | _ => .int 0
  have q := comp_map0 (h := []) (r := [some (.ins 0 (ns.map Val.int)), none, none]) (own := [2]) (g := gSet 2) (elt := eCall gAbs [(eCall gInt [(eVar 2)])]) (f := f) (walks_seq (v := .lst cs) (xs := cs) rfl) fun x hx => by
    obtain ⟨i, rfl⟩ := hcs x hx
    exact ⟨[some (.ins 0 (ns.map Val.int)), none, some (.int i)], by simp, by simp [f]⟩
  obtain ⟨ds, hd, hd0⟩ : ∃ ds : List Int, cs.map f = ds.map Val.int ∧ ∀ x ∈ ds, 0 ≤ x := by
    refine ⟨cs.map fun v => match v with | .int i => (if i < 0 then -i else i) | _ => 0, ?_, fun x hx => ?_⟩
    · rw [List.map_map]
      refine List.map_congr_left fun x hx => ?_
      obtain ⟨i, rfl⟩ := hcs x hx
      rfl
    · obtain ⟨v, hv, rfl⟩ := List.mem_map.mp hx
      obtain ⟨i, rfl⟩ := hcs v hv
      show 0 ≤ if i < 0 then -i else i
      split <;> omega
  rw [hd] at q
  have cut : gCutN [] (.ins 0 (ns.map Val.int)) none (some 63) = some cs := by rw [hc]; rfl
  refine ⟨[.lst (ds.map Val.int), .int 0, .int 0, .int (83 + 7 * ds.length), .int 0], ⟨ds, 0, 0, _, 0, rfl, hd0, by omega, by omega⟩, ?_, ?_⟩
  · simp only [frees, free, Bool.and_true]
    exact frees_of fun v hv => by
      obtain ⟨i, _, rfl⟩ := List.mem_map.mp hv
      rfl
  · rw [u__law_hand]
    simp (decide := true) [b__law_hand, cut, srcSeq, mul_l] at q ⊢
    simp (decide := true) [q, mul_l]
theorem law_math : ∀ ns : List Int, ns.length ≤ 63 → ∃ h', d_law [.ins 0 (ns.map Val.int)] [] = .ok (.bl true) h' := by
  intro ns _
  obtain ⟨xs, x1, x2, x3⟩ := m_hand ns
  have fs : frees [.ins 0 (ns.map Val.int)] = true := by
    simp only [frees, free, Bool.and_true]
    exact frees_of fun v hv => by
      obtain ⟨i, _, rfl⟩ := List.mem_map.mp hv
      rfl
  have a1 : apartN d__law_hand [.ins 0 (ns.map Val.int)] [] = .ok xs [] := by
    unfold apartN
    rw [if_pos fs, x3]
    simp [x2]
  have rr : ∀ {a b c d k : Int}, Okk a b → Okk c d → rel a b c d = k → apart d_relation [.tup [.int a, .int b], .tup [.int c, .int d]] [.lst xs] = .ok (.int k) [.lst xs] := fun o1 o2 e => ap (by rw [m_relation o1 o2 [], e]) rfl rfl
  have o01 : Okk 0 1 := ⟨by decide, by decide, by decide⟩
  have o02 : Okk 0 2 := ⟨by decide, by decide, by decide⟩
  have o03 : Okk 0 3 := ⟨by decide, by decide, by decide⟩
  have o12 : Okk 1 2 := ⟨by decide, by decide, by decide⟩
  have o13 : Okk 1 3 := ⟨by decide, by decide, by decide⟩
  have o23 : Okk 2 3 := ⟨by decide, by decide, by decide⟩
  have t0 := rr (k := 0) o01 o23 (by decide)
  have t1 := rr (k := 1) o02 o23 (by decide)
  have t2 := rr (k := 2) o02 o13 (by decide)
  have t3 := rr (k := 3) o01 o03 (by decide)
  have t4 := rr (k := 4) o12 o03 (by decide)
  have t5 := rr (k := 5) o13 o03 (by decide)
  have t6 := rr (k := 6) o03 o03 (by decide)
  have t7 := rr (k := 7) o03 o13 (by decide)
  have t8 := rr (k := 8) o03 o12 (by decide)
  have t9 := rr (k := 9) o03 o01 (by decide)
  have t10 := rr (k := 10) o13 o02 (by decide)
  have t11 := rr (k := 11) o23 o02 (by decide)
  have a2 : apart d__law_is [.lst [.int 0, .int 1, .int 2, .int 3, .int 4, .int 5, .int 6, .int 7, .int 8, .int 9, .int 10, .int 11], .lst [.int 0, .int 1, .int 2, .int 3, .int 4, .int 5, .int 6, .int 7, .int 8, .int 9, .int 10, .int 11]] [.lst xs] = .ok (.bl true) [.lst xs] := ap (is_refl 19 _ [] rfl) rfl rfl
  obtain ⟨told, et⟩ : ∃ told : Val, told = .lst [.int 0, .int 1, .int 2, .int 3, .int 4, .int 5, .int 6, .int 7, .int 8, .int 9, .int 10, .int 11] := ⟨_, rfl⟩
  obtain ⟨vs, h', c1, hd', t', rfl, c2, c3⟩ := comp_st (src := srcUp 0 6) (g := gSet 3) (mt := none) (body := eOne (eCallD d__law_is_case_right [(eVar 1)])) (own := [3]) (r := [some (.ins 0 (ns.map Val.int)), some (.ref 0), some told, none]) (h := [.lst xs]) (its := (List.range 6).map fun i => .int (0 + (i : Nat))) (fun h => walks_up)
    (fun i h acc => ∃ hd' t', h = hd' :: t' ∧ HandOK hd' ∧ ∀ v ∈ acc, v = .bl true) ⟨_, [], rfl, x1, fun v hv => nomatch hv⟩ (fun i x h acc hx ⟨hd', t', eh, h1, h2⟩ => by
      subst eh
      obtain ⟨hd2, t2, k1, k2⟩ := m_case (t := t') h1
      refine ⟨[some (.ins 0 (ns.map Val.int)), some (.ref 0), some told, some x], hd' :: t', true, hd' :: t', by simp, rfl, ?_⟩
      rw [if_pos rfl]
      refine ⟨[.bl true], hd2 :: t2, by simp [k2], hd2, t2, rfl, k1, fun v hv => ?_⟩
      rcases List.mem_append.mp hv with hv | hv
      · exact h2 v hv
      · simpa using hv)
  have al : gAll (hd' :: t') [.lst vs] = some (.bl true) := all_true c3
  refine ⟨hd' :: t', ?_⟩
  rw [u_law]
  subst et
  simp (decide := true) [b_law, a1, t0, t1, t2, t3, t4, t5, t6, t7, t8, t9, t10, t11, gAdd, a2, srcR] at c1 ⊢
  simp [c1, al]
end SW

namespace SW
open PySem PySem.Spec PyProof.Rows L2
def topS (i : Nat) : Stmt := PySem.Challenge.pw_stretchwebs_k40_whole_relations_of_spans.main.body.getD i (.Pass ⟨0, 0, 0, 0⟩)
abbrev s_is_integer : Stmt := topS 6
theorem sc_is_integer : FnScope ["thing"] ["thing"] (defScope s_is_integer) := ⟨rfl, rfl, rfl, by decide +kernel, rfl, by decide +kernel, by decide +kernel⟩
abbrev s_is_within : Stmt := topS 7
theorem sc_is_within : FnScope ["thing", "low", "high"] ["thing", "low", "high"] (defScope s_is_within) := ⟨rfl, rfl, rfl, by decide +kernel, rfl, by decide +kernel, by decide +kernel⟩
abbrev s_is_stretch : Stmt := topS 11
theorem sc_is_stretch : FnScope ["thing", "one"] ["thing"] (defScope s_is_stretch) := ⟨rfl, rfl, rfl, by decide +kernel, rfl, by decide +kernel, by decide +kernel⟩
abbrev s_is_span : Stmt := topS 16
theorem sc_is_span : FnScope ["thing"] ["thing"] (defScope s_is_span) := ⟨rfl, rfl, rfl, by decide +kernel, rfl, by decide +kernel, by decide +kernel⟩
abbrev s_compared : Stmt := topS 17
theorem sc_compared : FnScope ["one", "other"] ["one", "other"] (defScope s_compared) := ⟨rfl, rfl, rfl, by decide +kernel, rfl, by decide +kernel, by decide +kernel⟩
abbrev s_signs_of : Stmt := topS 18
theorem sc_signs_of : FnScope ["one", "other", "first", "last"] ["one", "other"] (defScope s_signs_of) := ⟨rfl, rfl, rfl, by decide +kernel, rfl, by decide +kernel, by decide +kernel⟩
abbrev s_raw_relation : Stmt := topS 20
theorem sc_raw_relation : FnScope ["one", "other"] ["one", "other"] (defScope s_raw_relation) := ⟨rfl, rfl, rfl, by decide +kernel, rfl, by decide +kernel, by decide +kernel⟩
abbrev s_relation : Stmt := topS 21
theorem sc_relation : FnScope ["one", "other", "span"] ["one", "other"] (defScope s_relation) := ⟨rfl, rfl, rfl, by decide +kernel, rfl, by decide +kernel, by decide +kernel⟩
abbrev s__law_hand : Stmt := topS 28
theorem sc__law_hand : FnScope ["script", "cells", "cell"] ["script"] (defScope s__law_hand) := ⟨rfl, rfl, rfl, by decide +kernel, rfl, by decide +kernel, by decide +kernel⟩
abbrev s__law_is : Stmt := topS 31
theorem sc__law_is : FnScope ["got", "due", "one", "other"] ["got", "due"] (defScope s__law_is) := ⟨rfl, rfl, rfl, by decide +kernel, rfl, by decide +kernel, by decide +kernel⟩
abbrev s_check_relation : Stmt := topS 22
theorem sc_check_relation : FnScope ["number"] ["number"] (defScope s_check_relation) := ⟨rfl, rfl, rfl, by decide +kernel, rfl, by decide +kernel, by decide +kernel⟩
abbrev s_turned_relation : Stmt := topS 23
theorem sc_turned_relation : FnScope ["number"] ["number"] (defScope s_turned_relation) := ⟨rfl, rfl, rfl, by decide +kernel, rfl, by decide +kernel, by decide +kernel⟩
abbrev s_are_spans : Stmt := topS 24
theorem sc_are_spans : FnScope ["thing", "one"] ["thing"] (defScope s_are_spans) := ⟨rfl, rfl, rfl, by decide +kernel, rfl, by decide +kernel, by decide +kernel⟩
abbrev s_all_ties : Stmt := topS 8
theorem sc_all_ties : FnScope ["many", "one", "other"] ["many"] (defScope s_all_ties) := ⟨rfl, rfl, rfl, by decide +kernel, rfl, by decide +kernel, by decide +kernel⟩
abbrev s_raw_net : Stmt := topS 25
theorem sc_raw_net : FnScope ["spans", "i", "j"] ["spans"] (defScope s_raw_net) := ⟨rfl, rfl, rfl, by decide +kernel, rfl, by decide +kernel, by decide +kernel⟩
abbrev s_net_of : Stmt := topS 26
theorem sc_net_of : FnScope ["spans"] ["spans"] (defScope s_net_of) := ⟨rfl, rfl, rfl, by decide +kernel, rfl, by decide +kernel, by decide +kernel⟩
abbrev s__law_draw : Stmt := topS 29
theorem sc__law_draw : FnScope ["hand", "many", "cell", "digit", "number"] ["hand", "many"] (defScope s__law_draw) := ⟨rfl, rfl, rfl, by decide +kernel, rfl, by decide +kernel, by decide +kernel⟩
abbrev s__law_some : Stmt := topS 30
theorem sc__law_some : FnScope ["hand", "things"] ["hand", "things"] (defScope s__law_some) := ⟨rfl, rfl, rfl, by decide +kernel, rfl, by decide +kernel, by decide +kernel⟩
abbrev s__law_turned_one : Stmt := topS 33
theorem sc__law_turned_one : FnScope ["one", "other"] ["one", "other"] (defScope s__law_turned_one) := ⟨rfl, rfl, rfl, by decide +kernel, rfl, by decide +kernel, by decide +kernel⟩
abbrev s__law_relation : Stmt := topS 32
theorem sc__law_relation : FnScope ["one", "other"] ["one", "other"] (defScope s__law_relation) := ⟨rfl, rfl, rfl, by decide +kernel, rfl, by decide +kernel, by decide +kernel⟩
abbrev s__law_spans : Stmt := topS 35
theorem sc__law_spans : FnScope ["hand", "many", "most", "found", "turn", "low"] ["hand", "many"] (defScope s__law_spans) := ⟨rfl, rfl, rfl, by decide +kernel, rfl, by decide +kernel, by decide +kernel⟩
abbrev s__law_pairs : Stmt := topS 34
theorem sc__law_pairs : FnScope ["many", "found", "i", "j"] ["many"] (defScope s__law_pairs) := ⟨rfl, rfl, rfl, by decide +kernel, rfl, by decide +kernel, by decide +kernel⟩
abbrev s__law_net : Stmt := topS 36
theorem sc__law_net : FnScope ["spans", "i", "j"] ["spans"] (defScope s__law_net) := ⟨rfl, rfl, rfl, by decide +kernel, rfl, by decide +kernel, by decide +kernel⟩
abbrev s__law_is_case_right : Stmt := topS 37
theorem sc__law_is_case_right : FnScope ["hand", "spans", "far", "low", "high", "one", "other", "told"] ["hand"] (defScope s__law_is_case_right) := ⟨rfl, rfl, rfl, by decide +kernel, rfl, by decide +kernel, by decide +kernel⟩
abbrev s_law : Stmt := topS 38
theorem sc_law : FnScope ["script", "hand", "told", "turn"] ["script"] (defScope s_law) := ⟨rfl, rfl, rfl, by decide +kernel, rfl, by decide +kernel, by decide +kernel⟩
structure Bt (T : Tab) (mg : Str → Option Value) : Prop where
  b_abs : mg "abs" = none
  b_all : mg "all" = none
  b_bool : mg "bool" = none
  b_int : mg "int" = none
  b_isinstance : mg "isinstance" = none
  b_len : mg "len" = none
  b_list : mg "list" = none
  b_range : mg "range" = none
  b_str : mg "str" = none
  b_tuple : mg "tuple" = none
  b_zip : mg "zip" = none
  g_LEAST_SPANS : Gk T mg "LEAST_SPANS" c_LEAST_SPANS
  g_SIGNS : Gk T mg "SIGNS" c_SIGNS
  t_SIGNS : GkT T mg "SIGNS" l_SIGNS
  g_MOST_RELATION : Gk T mg "MOST_RELATION" c_MOST_RELATION
  g_MOST_PLACE : Gk T mg "MOST_PLACE" c_MOST_PLACE
  g_MOST_SPANS : Gk T mg "MOST_SPANS" c_MOST_SPANS
section
variable {P : Program} {w : World} {K : PySem.W.Frag} {mg : Str → Option Value} {base : Heap} {cA : Nat → Addr} {cF : Nat → List Str} {f : Addr} {fd : FuncData}
theorem ok_is_integer (F : Fun K "is_integer" "is_integer" s_is_integer f fd) (B : Bt ⟨K, cA, cF⟩ mg)  : FnOk P w K mg base (L2.CX P w) 1 f fd ["thing"] (spOf ⟨K, cA, cF⟩ d_is_integer 1) :=
  fn_okX (k := 0) (ps := ["thing"]) (N := ["thing"]) (ms := b_is_integer) rfl F sc_is_integer (fun cdv A outer s H E hr => (css_one (cs_ret (ce_and (ce_isi .int (fun z => nomatch z) (ce_var 0) (by rfl) B.b_isinstance bb_isinstance (by rfl) B.b_int bb_int) (ce_one (ce_not (ce_isi .bool (fun z => nomatch z) (ce_var 0) (by rfl) B.b_isinstance bb_isinstance (by rfl) B.b_bool bb_bool)))))))
theorem ok_is_within (F : Fun K "is_within" "is_within" s_is_within f fd) (B : Bt ⟨K, cA, cF⟩ mg) (D_is_integer : Df P w K mg base ⟨K, cA, cF⟩ 1 "is_integer" 1 d_is_integer) : FnOk P w K mg base (L2.CX P w) 2 f fd ["thing", "low", "high"] (spOf ⟨K, cA, cF⟩ d_is_within 3) :=
  fn_okX (k := 1) (ps := ["thing", "low", "high"]) (N := ["thing", "low", "high"]) (ms := b_is_within) rfl F sc_is_within (fun cdv A outer s H E hr => (css_one (cs_ret (ce_and (ce_callP (D_is_integer.dk (hr.mono (by decide))) (by rfl) (ca_cons (ce_var 0) ca_nil)) (ce_one (ce_chain (fun ok => OpS.r (le_S ok)) (fun ok => OpS.r (le_S ok)) OpS.op OpS.op isB_ord (ce_var 1) (ce_var 0) (ce_var 2)))))))
theorem ok_is_stretch (F : Fun K "is_stretch" "is_stretch" s_is_stretch f fd) (B : Bt ⟨K, cA, cF⟩ mg) (D_is_within : Df P w K mg base ⟨K, cA, cF⟩ 2 "is_within" 3 d_is_within) : FnOk P w K mg base (L2.CX P w) 3 f fd ["thing"] (spOf ⟨K, cA, cF⟩ d_is_stretch 1) :=
  fn_okX (k := 2) (ps := ["thing"]) (N := ["thing", "one"]) (ms := b_is_stretch) rfl F sc_is_stretch (fun cdv A outer s H E hr => (css_cons (cs_if (ct_cw (cw_or (ct_not (ct_of (ce_isi .tup (fun z => nomatch z) (ce_var 0) (by rfl) B.b_isinstance bb_isinstance (by rfl) B.b_tuple bb_tuple))) (cw_or1 (ct_cop (fun ok => ne_S ok) isB_dd (ce_callB (fun ok => len_S ok) (by rfl) B.b_len bb_len (ca_cons (ce_var 0) ca_nil)) ce_int (by first | exact nomark _ | rfl | decide))))) (css_one (cs_ret ce_bl)) css_nil)
    (css_one (cs_ret (ce_and (ce_callB (fun ok => all_S ok) (by rfl) B.b_all bb_all (ca_cons (ce_frz (cn_comp [("one", 1)] (ci_seq (ce_var 0)) (fun _ _ _ _ _ => (cg_name 1)) (fun _ _ _ _ _ => cts_nil) (fun _ _ _ _ _ => (ce_callP (D_is_within.dk (hr.mono (by decide))) (by rfl) (ca_cons (ce_var 1) (ca_cons (ce_neg (ce_glob B.g_MOST_PLACE (by rfl))) (ca_cons (ce_glob B.g_MOST_PLACE (by rfl)) ca_nil))))))) ca_nil)) (ce_one (ce_cop (fun ok => le_S ok) (ce_ix (ce_var 0) ce_int) (ce_ix (ce_var 0) ce_int) (by first | exact nomark _ | rfl | decide))))))))
theorem ok_is_span (F : Fun K "is_span" "is_span" s_is_span f fd) (B : Bt ⟨K, cA, cF⟩ mg) (D_is_stretch : Df P w K mg base ⟨K, cA, cF⟩ 3 "is_stretch" 1 d_is_stretch) : FnOk P w K mg base (L2.CX P w) 4 f fd ["thing"] (spOf ⟨K, cA, cF⟩ d_is_span 1) :=
  fn_okX (k := 3) (ps := ["thing"]) (N := ["thing"]) (ms := b_is_span) rfl F sc_is_span (fun cdv A outer s H E hr => (css_one (cs_ret (ce_and (ce_callP (D_is_stretch.dk (hr.mono (by decide))) (by rfl) (ca_cons (ce_var 0) ca_nil)) (ce_one (ce_cop (fun ok => lt_S ok) (ce_ix (ce_var 0) ce_int) (ce_ix (ce_var 0) ce_int) (by first | exact nomark _ | rfl | decide)))))))
theorem ok_compared (F : Fun K "compared" "compared" s_compared f fd) (B : Bt ⟨K, cA, cF⟩ mg)  : FnOk P w K mg base (L2.CX P w) 1 f fd ["one", "other"] (spOf ⟨K, cA, cF⟩ d_compared 2) :=
  fn_okX (k := 0) (ps := ["one", "other"]) (N := ["one", "other"]) (ms := b_compared) rfl F sc_compared (fun cdv A outer s H E hr => (css_one (cs_ret (ce_bop (fun ok => sub_S) (ce_callTy (fun ok => int_S) (by rfl) B.b_int bb_int (ca_cons (ce_cop (fun ok => gt_S ok) (ce_var 0) (ce_var 1) (by first | exact nomark _ | rfl | decide)) ca_nil)) (ce_callTy (fun ok => int_S) (by rfl) B.b_int bb_int (ca_cons (ce_cop (fun ok => lt_S ok) (ce_var 0) (ce_var 1) (by first | exact nomark _ | rfl | decide)) ca_nil))))))
theorem ok_signs_of (F : Fun K "signs_of" "signs_of" s_signs_of f fd) (B : Bt ⟨K, cA, cF⟩ mg) (D_compared : Df P w K mg base ⟨K, cA, cF⟩ 1 "compared" 2 d_compared) : FnOk P w K mg base (L2.CX P w) 2 f fd ["one", "other"] (spOf ⟨K, cA, cF⟩ d_signs_of 2) :=
  fn_okX (k := 1) (ps := ["one", "other"]) (N := ["one", "other", "first", "last"]) (ms := b_signs_of) rfl F sc_signs_of (fun cdv A outer s H E hr => (css_one (cs_ret (ce_callTy (fun ok => tuple_S ok) (by rfl) B.b_tuple bb_tuple (ca_cons (ce_frz (cn_comp2 [("first", 2), ("last", 3)] [3] (ci_seq (ce_var 0)) (fun _ _ _ _ _ => (cg_name 2)) (fun _ _ _ _ _ => cts_nil) (fun _ _ _ _ _ => (ci_seq (ce_var 1))) (fun _ _ _ _ _ => (cg_name 3)) (fun _ _ _ _ _ => cts_nil) (fun _ _ _ _ _ => (ce_callP (D_compared.dk (hr.mono (by decide))) (by rfl) (ca_cons (ce_var 2) (ca_cons (ce_var 3) ca_nil)))))) ca_nil)))))
theorem ok_raw_relation (F : Fun K "raw_relation" "raw_relation" s_raw_relation f fd) (B : Bt ⟨K, cA, cF⟩ mg) (D_signs_of : Df P w K mg base ⟨K, cA, cF⟩ 2 "signs_of" 2 d_signs_of) : FnOk P w K mg base (L2.CX P w) 3 f fd ["one", "other"] (spOf ⟨K, cA, cF⟩ d_raw_relation 2) :=
  fn_okX (k := 2) (ps := ["one", "other"]) (N := ["one", "other"]) (ms := b_raw_relation) rfl F sc_raw_relation (fun cdv A outer s H E hr => (css_one (cs_ret (ce_idxC B.t_SIGNS (by rfl) (ce_callP (D_signs_of.dk (hr.mono (by decide))) (by rfl) (ca_cons (ce_var 0) (ca_cons (ce_var 1) ca_nil)))))))
theorem ok_relation (F : Fun K "relation" "relation" s_relation f fd) (B : Bt ⟨K, cA, cF⟩ mg) (D_is_span : Df P w K mg base ⟨K, cA, cF⟩ 4 "is_span" 1 d_is_span) (D_raw_relation : Df P w K mg base ⟨K, cA, cF⟩ 3 "raw_relation" 2 d_raw_relation) : FnOk P w K mg base (L2.CX P w) 5 f fd ["one", "other"] (spOf ⟨K, cA, cF⟩ d_relation 2) :=
  fn_okX (k := 4) (ps := ["one", "other"]) (N := ["one", "other", "span"]) (ms := b_relation) rfl F sc_relation (fun cdv A outer s H E hr => (css_cons (cs_for (ci_seq (ce_tup (ca_cons (ce_var 0) (ca_cons (ce_var 1) ca_nil)))) (cg_name 2) (css_one (cs_if (ct_not (ct_of (ce_callP (D_is_span.dk (hr.mono (by decide))) (by rfl) (ca_cons (ce_var 2) ca_nil)))) (css_one cs_stuck) css_nil)))
    (css_one (cs_ret (ce_callP (D_raw_relation.dk (hr.mono (by decide))) (by rfl) (ca_cons (ce_var 0) (ca_cons (ce_var 1) ca_nil)))))))
theorem ok__law_hand (F : Fun K "_law_hand" "_law_hand" s__law_hand f fd) (B : Bt ⟨K, cA, cF⟩ mg)  : FnOk P w K mg base (L2.CX P w) 1 f fd ["script"] (spOf ⟨K, cA, cF⟩ d__law_hand 1) :=
  fn_okX (k := 0) (ps := ["script"]) (N := ["script", "cells", "cell"]) (ms := b__law_hand) rfl F sc__law_hand (fun cdv A outer s H E hr => (css_cons (cs_setLc kept_frz 1 [("cell", 2)] (ci_seq (ce_frz (cn_slc (ce_var 0) co_none (co_some ce_int)))) (fun _ _ _ _ _ => (cg_name 2)) (fun _ _ _ _ _ => cts_nil) (fun _ _ _ _ _ => (ce_callB (fun ok => abs_S) (by rfl) B.b_abs bb_abs (ca_cons (ce_callTy (fun ok => int_S) (by rfl) B.b_int bb_int (ca_cons (ce_var 2) ca_nil)) ca_nil))))
    (css_one (cs_ret (ce_loc (cn_lst (ca_cons (ce_var 1) (ca_cons ce_int (ca_cons ce_int (ca_cons (ce_bop (fun ok => add_S ok.k) ce_int (ce_bop (fun ok => mul_S ok.k) ce_int (ce_callB (fun ok => len_S ok) (by rfl) B.b_len bb_len (ca_cons (ce_var 1) ca_nil)))) (ca_cons ce_int ca_nil)))))))))))
theorem ok__law_is (F : Fun K "_law_is" "_law_is" s__law_is f fd) (B : Bt ⟨K, cA, cF⟩ mg)  (hm : mg "_law_is" = some (.ref f)) (hb : Binds K fd ["got", "due"] []) : FnOk P w K mg base (L2.CX P w) 21 f fd ["got", "due"] (spOf ⟨K, cA, cF⟩ d__law_is 2) := by
  refine rec_ok (k := 1) (d := r__law_is) (ps := ["got", "due"]) (fun _ _ => rfl) (fun n G => ?_) 20
  have D__law_is : Df P w K mg base ⟨K, cA, cF⟩ (1 + n) "_law_is" 2 (r__law_is n) := Df.mk' F G hm hb
  exact fn_okX (k := 1 + n) (ps := ["got", "due"]) (N := ["got", "due", "one", "other"]) (ms := b__law_is (r__law_is n)) rfl F sc__law_is (fun cdv A outer s H E hr => (css_cons (cs_if (ct_of (ce_isi2 .tup .lst (fun z => nomatch z) (fun z => nomatch z) (ce_var 1) (by rfl) B.b_isinstance bb_isinstance (by rfl) B.b_tuple bb_tuple (by rfl) B.b_list bb_list)) (css_cons (cs_if (ct_cop (fun ok => ne_S ok) isB_dd (ce_isi .tup (fun z => nomatch z) (ce_var 0) (by rfl) B.b_isinstance bb_isinstance (by rfl) B.b_tuple bb_tuple) (ce_isi .tup (fun z => nomatch z) (ce_var 1) (by rfl) B.b_isinstance bb_isinstance (by rfl) B.b_tuple bb_tuple) (by first | exact nomark _ | rfl | decide)) (css_one (cs_ret ce_bl)) css_nil)
    (css_cons (cs_if (ct_cw (cw_or (ct_cop (fun ok => ne_S ok) isB_dd (ce_isi .lst (fun z => nomatch z) (ce_var 0) (by rfl) B.b_isinstance bb_isinstance (by rfl) B.b_list bb_list) (ce_isi .lst (fun z => nomatch z) (ce_var 1) (by rfl) B.b_isinstance bb_isinstance (by rfl) B.b_list bb_list) (by first | exact nomark _ | rfl | decide)) (cw_or1 (ct_cop (fun ok => ne_S ok) isB_dd (ce_callB (fun ok => len_S ok) (by rfl) B.b_len bb_len (ca_cons (ce_var 0) ca_nil)) (ce_callB (fun ok => len_S ok) (by rfl) B.b_len bb_len (ca_cons (ce_var 1) ca_nil)) (by first | exact nomark _ | rfl | decide))))) (css_one (cs_ret ce_bl)) css_nil)
    (css_one (cs_ret (ce_callB (fun ok => all_S ok) (by rfl) B.b_all bb_all (ca_cons (ce_frz (cn_comp [("one", 2), ("other", 3)] (ci_zip (ce_var 0) (ce_var 1) (by rfl) B.b_zip) (fun _ _ _ _ _ => (cg_tup (cgs_cons (cg_name 2) (cgs_cons (cg_name 3) cgs_nil)))) (fun _ _ _ _ _ => cts_nil) (fun _ _ _ _ _ => (ce_callP (D__law_is.dk (hr.mono (by omega))) (by rfl) (ca_cons (ce_var 2) (ca_cons (ce_var 3) ca_nil)))))) ca_nil)))))) css_nil)
    (css_cons (cs_if (ct_cw (cw_or (ct_cop (fun ok => is_S) isB_is (ce_var 1) ce_non (by first | exact nomark _ | rfl | decide)) (cw_or1 (ct_cop (fun ok => is_S) isB_is (ce_var 0) ce_non (by first | exact nomark _ | rfl | decide))))) (css_one (cs_ret (ce_and (ce_cop (fun ok => is_S) (ce_var 1) ce_non (by first | exact nomark _ | rfl | decide)) (ce_one (ce_cop (fun ok => is_S) (ce_var 0) ce_non (by first | exact nomark _ | rfl | decide)))))) css_nil)
    (css_cons (cs_if (ct_cop (fun ok => ne_S ok) isB_dd (ce_isi .bool (fun z => nomatch z) (ce_var 0) (by rfl) B.b_isinstance bb_isinstance (by rfl) B.b_bool bb_bool) (ce_isi .bool (fun z => nomatch z) (ce_var 1) (by rfl) B.b_isinstance bb_isinstance (by rfl) B.b_bool bb_bool) (by first | exact nomark _ | rfl | decide)) (css_one (cs_ret ce_bl)) css_nil)
    (css_one (cs_ret (ce_and (ce_cop (fun ok => eq_S ok) (ce_isi .str (fun z => nomatch z) (ce_var 0) (by rfl) B.b_isinstance bb_isinstance (by rfl) B.b_str bb_str) (ce_isi .str (fun z => nomatch z) (ce_var 1) (by rfl) B.b_isinstance bb_isinstance (by rfl) B.b_str bb_str) (by first | exact nomark _ | rfl | decide)) (ce_one (ce_cop (fun ok => eq_S ok) (ce_var 0) (ce_var 1) (by first | exact nomark _ | rfl | decide))))))))))
theorem ok_check_relation (F : Fun K "check_relation" "check_relation" s_check_relation f fd) (B : Bt ⟨K, cA, cF⟩ mg) (D_is_within : Df P w K mg base ⟨K, cA, cF⟩ 2 "is_within" 3 d_is_within) : FnOk P w K mg base (L2.CX P w) 3 f fd ["number"] (spOf ⟨K, cA, cF⟩ d_check_relation 1) :=
  fn_okX (k := 2) (ps := ["number"]) (N := ["number"]) (ms := b_check_relation) rfl F sc_check_relation (fun cdv A outer s H E hr => (css_one (cs_if (ct_not (ct_of (ce_callP (D_is_within.dk (hr.mono (by decide))) (by rfl) (ca_cons (ce_var 0) (ca_cons ce_int (ca_cons (ce_glob B.g_MOST_RELATION (by rfl)) ca_nil)))))) (css_one cs_stuck) css_nil)))
theorem ok_turned_relation (F : Fun K "turned_relation" "turned_relation" s_turned_relation f fd) (B : Bt ⟨K, cA, cF⟩ mg) (D_check_relation : Df P w K mg base ⟨K, cA, cF⟩ 3 "check_relation" 1 d_check_relation) : FnOk P w K mg base (L2.CX P w) 4 f fd ["number"] (spOf ⟨K, cA, cF⟩ d_turned_relation 1) :=
  fn_okX (k := 3) (ps := ["number"]) (N := ["number"]) (ms := b_turned_relation) rfl F sc_turned_relation (fun cdv A outer s H E hr => (css_cons (cs_expr (ce_callP (D_check_relation.dk (hr.mono (by decide))) (by rfl) (ca_cons (ce_var 0) ca_nil)))
    (css_one (cs_ret (ce_bop (fun ok => sub_S) (ce_glob B.g_MOST_RELATION (by rfl)) (ce_var 0))))))
theorem ok_are_spans (F : Fun K "are_spans" "are_spans" s_are_spans f fd) (B : Bt ⟨K, cA, cF⟩ mg) (D_is_span : Df P w K mg base ⟨K, cA, cF⟩ 4 "is_span" 1 d_is_span) : FnOk P w K mg base (L2.CX P w) 5 f fd ["thing"] (spOf ⟨K, cA, cF⟩ d_are_spans 1) :=
  fn_okX (k := 4) (ps := ["thing"]) (N := ["thing", "one"]) (ms := b_are_spans) rfl F sc_are_spans (fun cdv A outer s H E hr => (css_cons (cs_if (ct_cw (cw_or (ct_not (ct_of (ce_isi .tup (fun z => nomatch z) (ce_var 0) (by rfl) B.b_isinstance bb_isinstance (by rfl) B.b_tuple bb_tuple))) (cw_or1 (ct_not (ct_chain (fun ok => OpS.r (le_S ok)) (fun ok => OpS.r (le_S ok)) OpS.op OpS.op isB_ord isB_ord (ce_glob B.g_LEAST_SPANS (by rfl)) (ce_callB (fun ok => len_S ok) (by rfl) B.b_len bb_len (ca_cons (ce_var 0) ca_nil)) (ce_glob B.g_MOST_SPANS (by rfl))))))) (css_one (cs_ret ce_bl)) css_nil)
    (css_one (cs_ret (ce_callB (fun ok => all_S ok) (by rfl) B.b_all bb_all (ca_cons (ce_frz (cn_comp [("one", 1)] (ci_seq (ce_var 0)) (fun _ _ _ _ _ => (cg_name 1)) (fun _ _ _ _ _ => cts_nil) (fun _ _ _ _ _ => (ce_callP (D_is_span.dk (hr.mono (by decide))) (by rfl) (ca_cons (ce_var 1) ca_nil))))) ca_nil))))))
theorem ok_all_ties (F : Fun K "all_ties" "all_ties" s_all_ties f fd) (B : Bt ⟨K, cA, cF⟩ mg)  : FnOk P w K mg base (L2.CX P w) 1 f fd ["many"] (spOf ⟨K, cA, cF⟩ d_all_ties 1) :=
  fn_okX (k := 0) (ps := ["many"]) (N := ["many", "one", "other"]) (ms := b_all_ties) rfl F sc_all_ties (fun cdv A outer s H E hr => (css_one (cs_ret (ce_frz (cn_comp2 [("one", 1), ("other", 2)] [2] (ci_range1 (ce_var 0) (by rfl) B.b_range) (fun _ _ _ _ _ => (cg_name 1)) (fun _ _ _ _ _ => cts_nil) (fun _ _ _ _ _ => (ci_range2 (ce_bop (fun ok => add_S ok.k) (ce_var 1) ce_int) (ce_var 0) (by rfl) B.b_range)) (fun _ _ _ _ _ => (cg_name 2)) (fun _ _ _ _ _ => cts_nil) (fun _ _ _ _ _ => (ce_tup (ca_cons (ce_var 1) (ca_cons (ce_var 2) ca_nil)))))))))
theorem ok_raw_net (F : Fun K "raw_net" "raw_net" s_raw_net f fd) (B : Bt ⟨K, cA, cF⟩ mg) (D_raw_relation : Df P w K mg base ⟨K, cA, cF⟩ 3 "raw_relation" 2 d_raw_relation) (D_all_ties : Df P w K mg base ⟨K, cA, cF⟩ 1 "all_ties" 1 d_all_ties) : FnOk P w K mg base (L2.CX P w) 4 f fd ["spans"] (spOf ⟨K, cA, cF⟩ d_raw_net 1) :=
  fn_okX (k := 3) (ps := ["spans"]) (N := ["spans", "i", "j"]) (ms := b_raw_net) rfl F sc_raw_net (fun cdv A outer s H E hr => (css_one (cs_ret (ce_callTy (fun ok => tuple_S ok) (by rfl) B.b_tuple bb_tuple (ca_cons (ce_frz (cn_comp [("i", 1), ("j", 2)] (ci_seq (ce_callP (D_all_ties.dk (hr.mono (by decide))) (by rfl) (ca_cons (ce_callB (fun ok => len_S ok) (by rfl) B.b_len bb_len (ca_cons (ce_var 0) ca_nil)) ca_nil))) (fun _ _ _ _ _ => (cg_tup (cgs_cons (cg_name 1) (cgs_cons (cg_name 2) cgs_nil)))) (fun _ _ _ _ _ => cts_nil) (fun _ _ _ _ _ => (ce_tup (ca_cons (ce_callP (D_raw_relation.dk (hr.mono (by decide))) (by rfl) (ca_cons (ce_ix (ce_var 0) (ce_var 1)) (ca_cons (ce_ix (ce_var 0) (ce_var 2)) ca_nil))) ca_nil))))) ca_nil)))))
theorem ok_net_of (F : Fun K "net_of" "net_of" s_net_of f fd) (B : Bt ⟨K, cA, cF⟩ mg) (D_are_spans : Df P w K mg base ⟨K, cA, cF⟩ 5 "are_spans" 1 d_are_spans) (D_raw_net : Df P w K mg base ⟨K, cA, cF⟩ 4 "raw_net" 1 d_raw_net) : FnOk P w K mg base (L2.CX P w) 6 f fd ["spans"] (spOf ⟨K, cA, cF⟩ d_net_of 1) :=
  fn_okX (k := 5) (ps := ["spans"]) (N := ["spans"]) (ms := b_net_of) rfl F sc_net_of (fun cdv A outer s H E hr => (css_cons (cs_if (ct_not (ct_of (ce_callP (D_are_spans.dk (hr.mono (by decide))) (by rfl) (ca_cons (ce_var 0) ca_nil)))) (css_one cs_stuck) css_nil)
    (css_one (cs_ret (ce_callP (D_raw_net.dk (hr.mono (by decide))) (by rfl) (ca_cons (ce_var 0) ca_nil))))))
theorem ok__law_draw (F : Fun K "_law_draw" "_law_draw" s__law_draw f fd) (B : Bt ⟨K, cA, cF⟩ mg)  : FnOk P w K mg base (L2.CX P w) 1 f fd ["hand", "many"] (spOf ⟨K, cA, cF⟩ d__law_draw 2) :=
  fn_okX (k := 0) (ps := ["hand", "many"]) (N := ["hand", "many", "cell", "digit", "number"]) (ms := b__law_draw) rfl F sc__law_draw (fun cdv A outer s H E hr => (css_cons (cs_if (ct_cw (cw_and (ct_cop (fun ok => eq_S ok) isB_dd (ce_ix (ce_var 0) ce_int) ce_int (by first | exact nomark _ | rfl | decide)) (cw_and1 (ct_cop (fun ok => lt_S ok) isB_ord (ce_ix (ce_var 0) ce_int) (ce_callB (fun ok => len_S ok) (by rfl) B.b_len bb_len (ca_cons (ce_ix (ce_var 0) ce_int) ca_nil)) (by first | exact nomark _ | rfl | decide))))) (css_cons (cs_set 2 (ce_ix (ce_ix (ce_var 0) ce_int) (ce_ix (ce_var 0) ce_int)))
    (css_cons (cs_asg (ce_bop (fun ok => add_S ok.k) (ce_ix (ce_var 0) ce_int) ce_int) (cg_store (ce_var 0) ce_int))
    (css_cons (cs_asg (ce_bop (fun ok => mod_S) (ce_callTy (fun ok => int_S) (by rfl) B.b_int bb_int (ca_cons (ce_bop (fun ok => add_S ok.k) (ce_bop (fun ok => add_S ok.k) (ce_bop (fun ok => mul_S ok.k) (ce_ix (ce_var 0) ce_int) ce_int) (ce_var 2)) ce_int) ca_nil)) ce_int) (cg_store (ce_var 0) ce_int))
    (css_one (cs_if (ct_cop (fun ok => ge_S ok) isB_ord (ce_var 2) (ce_bop (fun ok => pow_S) ce_int ce_int) (by first | exact nomark _ | rfl | decide)) (css_one (cs_asg (ce_var 2) (cg_store (ce_var 0) ce_int))) css_nil))))) css_nil)
    (css_cons (cs_if (ct_cop (fun ok => gt_S ok) isB_ord (ce_ix (ce_var 0) ce_int) ce_int (by first | exact nomark _ | rfl | decide)) (css_cons (cs_set 3 (ce_bop (fun ok => mod_S) (ce_callTy (fun ok => int_S) (by rfl) B.b_int bb_int (ca_cons (ce_ix (ce_var 0) ce_int) ca_nil)) (ce_var 1)))
    (css_cons (cs_asg (ce_bop (fun ok => div_S) (ce_ix (ce_var 0) ce_int) (ce_var 1)) (cg_store (ce_var 0) ce_int))
    (css_one (cs_ret (ce_var 3))))) css_nil)
    (css_cons (cs_asg (ce_bop (fun ok => add_S ok.k) (ce_ix (ce_var 0) ce_int) ce_int) (cg_store (ce_var 0) ce_int))
    (css_cons (cs_set 4 (ce_bop (fun ok => mod_S) (ce_callTy (fun ok => int_S) (by rfl) B.b_int bb_int (ca_cons (ce_bop (fun ok => mul_S ok.k) (ce_callTy (fun ok => int_S) (by rfl) B.b_int bb_int (ca_cons (ce_bop (fun ok => add_S ok.k) (ce_ix (ce_var 0) ce_int) (ce_bop (fun ok => mul_S ok.k) ce_int (ce_ix (ce_var 0) ce_int))) ca_nil)) ce_int) ca_nil)) ce_int))
    (css_cons (cs_set 4 (ce_bop (fun ok => mod_S) (ce_callTy (fun ok => int_S) (by rfl) B.b_int bb_int (ca_cons (ce_bop (fun ok => mul_S ok.k) (ce_var 4) (ce_bop (fun ok => add_S ok.k) (ce_bop (fun ok => div_S) (ce_var 4) ce_int) ce_int)) ca_nil)) ce_int))
    (css_cons (cs_set 4 (ce_bop (fun ok => mod_S) (ce_callTy (fun ok => int_S) (by rfl) B.b_int bb_int (ca_cons (ce_bop (fun ok => mul_S ok.k) (ce_var 4) (ce_bop (fun ok => add_S ok.k) (ce_bop (fun ok => div_S) (ce_var 4) ce_int) ce_int)) ca_nil)) ce_int))
    (css_one (cs_ret (ce_bop (fun ok => mod_S) (ce_callTy (fun ok => int_S) (by rfl) B.b_int bb_int (ca_cons (ce_bop (fun ok => div_S) (ce_var 4) ce_int) ca_nil)) (ce_var 1)))))))))))
theorem ok__law_some (F : Fun K "_law_some" "_law_some" s__law_some f fd) (B : Bt ⟨K, cA, cF⟩ mg) (D__law_draw : Df P w K mg base ⟨K, cA, cF⟩ 1 "_law_draw" 2 d__law_draw) : FnOk P w K mg base (L2.CX P w) 2 f fd ["hand", "things"] (spOf ⟨K, cA, cF⟩ d__law_some 2) :=
  fn_okX (k := 1) (ps := ["hand", "things"]) (N := ["hand", "things"]) (ms := b__law_some) rfl F sc__law_some (fun cdv A outer s H E hr => (css_one (cs_ret (ce_ix (ce_var 1) (ce_callD (D__law_draw.dk (hr.mono (by decide))) (by rfl) (ca_cons (ce_var 0) (ca_cons (ce_callB (fun ok => len_S ok) (by rfl) B.b_len bb_len (ca_cons (ce_var 1) ca_nil)) ca_nil)))))))
theorem ok__law_turned_one (F : Fun K "_law_turned_one" "_law_turned_one" s__law_turned_one f fd) (B : Bt ⟨K, cA, cF⟩ mg)  : FnOk P w K mg base (L2.CX P w) 1 f fd ["one", "other"] (spOf ⟨K, cA, cF⟩ d__law_turned_one 2) :=
  fn_okX (k := 0) (ps := ["one", "other"]) (N := ["one", "other"]) (ms := b__law_turned_one) rfl F sc__law_turned_one (fun cdv A outer s H E hr => (css_cons (cs_if (ct_cop (fun ok => lt_S ok) isB_ord (ce_ix (ce_var 1) ce_int) (ce_ix (ce_var 0) ce_int) (by first | exact nomark _ | rfl | decide)) (css_one (cs_ret ce_int)) css_nil)
    (css_cons (cs_if (ct_cop (fun ok => eq_S ok) isB_dd (ce_ix (ce_var 1) ce_int) (ce_ix (ce_var 0) ce_int) (by first | exact nomark _ | rfl | decide)) (css_one (cs_ret ce_int)) css_nil)
    (css_cons (cs_if (ct_cw (cw_and (ct_cop (fun ok => lt_S ok) isB_ord (ce_ix (ce_var 1) ce_int) (ce_ix (ce_var 0) ce_int) (by first | exact nomark _ | rfl | decide)) (cw_and1 (ct_cop (fun ok => lt_S ok) isB_ord (ce_ix (ce_var 1) ce_int) (ce_ix (ce_var 0) ce_int) (by first | exact nomark _ | rfl | decide))))) (css_one (cs_ret ce_int)) css_nil)
    (css_cons (cs_if (ct_cop (fun ok => eq_S ok) isB_dd (ce_ix (ce_var 1) ce_int) (ce_ix (ce_var 0) ce_int) (by first | exact nomark _ | rfl | decide)) (css_one (cs_ret ce_int)) css_nil)
    (css_one (cs_ret (ce_if (ct_cop (fun ok => lt_S ok) isB_ord (ce_ix (ce_var 1) ce_int) (ce_ix (ce_var 0) ce_int) (by first | exact nomark _ | rfl | decide)) ce_int ce_int))))))))
theorem ok__law_relation (F : Fun K "_law_relation" "_law_relation" s__law_relation f fd) (B : Bt ⟨K, cA, cF⟩ mg) (D__law_turned_one : Df P w K mg base ⟨K, cA, cF⟩ 1 "_law_turned_one" 2 d__law_turned_one) : FnOk P w K mg base (L2.CX P w) 2 f fd ["one", "other"] (spOf ⟨K, cA, cF⟩ d__law_relation 2) :=
  fn_okX (k := 1) (ps := ["one", "other"]) (N := ["one", "other"]) (ms := b__law_relation) rfl F sc__law_relation (fun cdv A outer s H E hr => (css_cons (cs_if (ct_cop (fun ok => lt_S ok) isB_ord (ce_ix (ce_var 0) ce_int) (ce_ix (ce_var 1) ce_int) (by first | exact nomark _ | rfl | decide)) (css_one (cs_ret ce_int)) css_nil)
    (css_cons (cs_if (ct_cop (fun ok => eq_S ok) isB_dd (ce_ix (ce_var 0) ce_int) (ce_ix (ce_var 1) ce_int) (by first | exact nomark _ | rfl | decide)) (css_one (cs_ret ce_int)) css_nil)
    (css_cons (cs_if (ct_cw (cw_and (ct_cop (fun ok => lt_S ok) isB_ord (ce_ix (ce_var 0) ce_int) (ce_ix (ce_var 1) ce_int) (by first | exact nomark _ | rfl | decide)) (cw_and1 (ct_cop (fun ok => lt_S ok) isB_ord (ce_ix (ce_var 0) ce_int) (ce_ix (ce_var 1) ce_int) (by first | exact nomark _ | rfl | decide))))) (css_one (cs_ret ce_int)) css_nil)
    (css_cons (cs_if (ct_cw (cw_and (ct_cop (fun ok => eq_S ok) isB_dd (ce_ix (ce_var 0) ce_int) (ce_ix (ce_var 1) ce_int) (by first | exact nomark _ | rfl | decide)) (cw_and1 (ct_cop (fun ok => lt_S ok) isB_ord (ce_ix (ce_var 0) ce_int) (ce_ix (ce_var 1) ce_int) (by first | exact nomark _ | rfl | decide))))) (css_one (cs_ret ce_int)) css_nil)
    (css_cons (cs_if (ct_cw (cw_and (ct_cop (fun ok => gt_S ok) isB_ord (ce_ix (ce_var 0) ce_int) (ce_ix (ce_var 1) ce_int) (by first | exact nomark _ | rfl | decide)) (cw_and1 (ct_cop (fun ok => lt_S ok) isB_ord (ce_ix (ce_var 0) ce_int) (ce_ix (ce_var 1) ce_int) (by first | exact nomark _ | rfl | decide))))) (css_one (cs_ret ce_int)) css_nil)
    (css_cons (cs_if (ct_cw (cw_and (ct_cop (fun ok => gt_S ok) isB_ord (ce_ix (ce_var 0) ce_int) (ce_ix (ce_var 1) ce_int) (by first | exact nomark _ | rfl | decide)) (cw_and1 (ct_cop (fun ok => eq_S ok) isB_dd (ce_ix (ce_var 0) ce_int) (ce_ix (ce_var 1) ce_int) (by first | exact nomark _ | rfl | decide))))) (css_one (cs_ret ce_int)) css_nil)
    (css_one (cs_ret (ce_if (ct_cop (fun ok => eq_S ok) isB_dd (ce_var 0) (ce_var 1) (by first | exact nomark _ | rfl | decide)) ce_int (ce_bop (fun ok => sub_S) ce_int (ce_callP (D__law_turned_one.dk (hr.mono (by decide))) (by rfl) (ca_cons (ce_var 0) (ca_cons (ce_var 1) ca_nil))))))))))))))
theorem ok__law_spans (F : Fun K "_law_spans" "_law_spans" s__law_spans f fd) (B : Bt ⟨K, cA, cF⟩ mg) (D__law_draw : Df P w K mg base ⟨K, cA, cF⟩ 1 "_law_draw" 2 d__law_draw) (D__law_some : Df P w K mg base ⟨K, cA, cF⟩ 2 "_law_some" 2 d__law_some) : FnOk P w K mg base (L2.CX P w) 3 f fd ["hand", "many"] (spOf ⟨K, cA, cF⟩ d__law_spans 2) :=
  fn_okX (k := 2) (ps := ["hand", "many"]) (N := ["hand", "many", "most", "found", "turn", "low"]) (ms := b__law_spans) rfl F sc__law_spans (fun cdv A outer s H E hr => (css_cons (cs_par 2 3 (ca_cons (ce_callD (D__law_some.dk (hr.mono (by decide))) (by rfl) (ca_cons (ce_var 0) (ca_cons (ce_frz (cn_lst (ca_cons ce_int (ca_cons ce_int (ca_cons ce_int ca_nil))))) ca_nil))) (ca_cons (ce_loc (cn_lst ca_nil)) ca_nil)))
    (css_cons (cs_for (ci_range1 (ce_var 1) (by rfl) B.b_range) (cg_name 4) (css_cons (cs_set 5 (ce_callD (D__law_draw.dk (hr.mono (by decide))) (by rfl) (ca_cons (ce_var 0) (ca_cons (ce_var 2) ca_nil))))
    (css_one (cs_expr (ce_met append_W mt_append PySem.F.slot_list_append PySem.F.type_list_append (ce_var 3) (ca_cons (ce_tup (ca_cons (ce_var 5) (ca_cons (ce_bop (fun ok => add_S ok.k) (ce_bop (fun ok => add_S ok.k) (ce_var 5) ce_int) (ce_callD (D__law_draw.dk (hr.mono (by decide))) (by rfl) (ca_cons (ce_var 0) (ca_cons (ce_var 2) ca_nil)))) ca_nil))) ca_nil))))))
    (css_one (cs_ret (ce_callTy (fun ok => tuple_S ok) (by rfl) B.b_tuple bb_tuple (ca_cons (ce_var 3) ca_nil)))))))
theorem ok__law_pairs (F : Fun K "_law_pairs" "_law_pairs" s__law_pairs f fd) (B : Bt ⟨K, cA, cF⟩ mg)  : FnOk P w K mg base (L2.CX P w) 1 f fd ["many"] (spOf ⟨K, cA, cF⟩ d__law_pairs 1) :=
  fn_okX (k := 0) (ps := ["many"]) (N := ["many", "found", "i", "j"]) (ms := b__law_pairs) rfl F sc__law_pairs (fun cdv A outer s H E hr => (css_cons (cs_set 1 (ce_loc (cn_lst ca_nil)))
    (css_cons (cs_for (ci_range1 (ce_var 0) (by rfl) B.b_range) (cg_name 2) (css_one (cs_expr (ce_met extend_W mt_extend PySem.F.slot_list_extend PySem.F.type_list_extend (ce_var 1) (ca_cons (ce_frz (cn_comp [("j", 3)] (ci_range2 (ce_bop (fun ok => add_S ok.k) (ce_var 2) ce_int) (ce_var 0) (by rfl) B.b_range) (fun _ _ _ _ _ => (cg_name 3)) (fun _ _ _ _ _ => cts_nil) (fun _ _ _ _ _ => (ce_tup (ca_cons (ce_var 2) (ca_cons (ce_var 3) ca_nil)))))) ca_nil)))))
    (css_one (cs_ret (ce_move 1))))))
theorem ok__law_net (F : Fun K "_law_net" "_law_net" s__law_net f fd) (B : Bt ⟨K, cA, cF⟩ mg) (D__law_relation : Df P w K mg base ⟨K, cA, cF⟩ 2 "_law_relation" 2 d__law_relation) (D__law_pairs : Df P w K mg base ⟨K, cA, cF⟩ 1 "_law_pairs" 1 d__law_pairs) : FnOk P w K mg base (L2.CX P w) 3 f fd ["spans"] (spOf ⟨K, cA, cF⟩ d__law_net 1) :=
  fn_okX (k := 2) (ps := ["spans"]) (N := ["spans", "i", "j"]) (ms := b__law_net) rfl F sc__law_net (fun cdv A outer s H E hr => (css_one (cs_ret (ce_callTy (fun ok => tuple_S ok) (by rfl) B.b_tuple bb_tuple (ca_cons (ce_frz (cn_comp [("i", 1), ("j", 2)] (ci_seq (ce_callP (D__law_pairs.dk (hr.mono (by decide))) (by rfl) (ca_cons (ce_callB (fun ok => len_S ok) (by rfl) B.b_len bb_len (ca_cons (ce_var 0) ca_nil)) ca_nil))) (fun _ _ _ _ _ => (cg_tup (cgs_cons (cg_name 1) (cgs_cons (cg_name 2) cgs_nil)))) (fun _ _ _ _ _ => cts_nil) (fun _ _ _ _ _ => (ce_tup (ca_cons (ce_callP (D__law_relation.dk (hr.mono (by decide))) (by rfl) (ca_cons (ce_ix (ce_var 0) (ce_var 1)) (ca_cons (ce_ix (ce_var 0) (ce_var 2)) ca_nil))) ca_nil))))) ca_nil)))))
theorem ok__law_is_case_right (F : Fun K "_law_is_case_right" "_law_is_case_right" s__law_is_case_right f fd) (B : Bt ⟨K, cA, cF⟩ mg) (D_relation : Df P w K mg base ⟨K, cA, cF⟩ 5 "relation" 2 d_relation) (D__law_is : Df P w K mg base ⟨K, cA, cF⟩ 21 "_law_is" 2 d__law_is) (D_turned_relation : Df P w K mg base ⟨K, cA, cF⟩ 4 "turned_relation" 1 d_turned_relation) (D_net_of : Df P w K mg base ⟨K, cA, cF⟩ 6 "net_of" 1 d_net_of) (D__law_draw : Df P w K mg base ⟨K, cA, cF⟩ 1 "_law_draw" 2 d__law_draw) (D__law_some : Df P w K mg base ⟨K, cA, cF⟩ 2 "_law_some" 2 d__law_some) (D__law_relation : Df P w K mg base ⟨K, cA, cF⟩ 2 "_law_relation" 2 d__law_relation) (D__law_spans : Df P w K mg base ⟨K, cA, cF⟩ 3 "_law_spans" 2 d__law_spans) (D__law_net : Df P w K mg base ⟨K, cA, cF⟩ 3 "_law_net" 1 d__law_net) : FnOk P w K mg base (L2.CX P w) 22 f fd ["hand"] (spOf ⟨K, cA, cF⟩ d__law_is_case_right 1) :=
  fn_okX (k := 21) (ps := ["hand"]) (N := ["hand", "spans", "far", "low", "high", "one", "other", "told"]) (ms := b__law_is_case_right) rfl F sc__law_is_case_right (fun cdv A outer s H E hr => (css_cons (cs_set 1 (ce_callD (D__law_spans.dk (hr.mono (by decide))) (by rfl) (ca_cons (ce_var 0) (ca_cons (ce_bop (fun ok => add_S ok.k) ce_int (ce_callD (D__law_draw.dk (hr.mono (by decide))) (by rfl) (ca_cons (ce_var 0) (ca_cons ce_int ca_nil)))) ca_nil))))
    (css_cons (cs_set 2 (ce_callD (D__law_some.dk (hr.mono (by decide))) (by rfl) (ca_cons (ce_var 0) (ca_cons (ce_frz (cn_lst (ca_cons ce_int (ca_cons (ce_bop (fun ok => sub_S) ce_int ce_int) (ca_cons (ce_neg ce_int) ca_nil))))) ca_nil))))
    (css_cons (cs_set 1 (ce_callTy (fun ok => tuple_S ok) (by rfl) B.b_tuple bb_tuple (ca_cons (ce_frz (cn_comp [("low", 3), ("high", 4)] (ci_seq (ce_var 1)) (fun _ _ _ _ _ => (cg_tup (cgs_cons (cg_name 3) (cgs_cons (cg_name 4) cgs_nil)))) (fun _ _ _ _ _ => cts_nil) (fun _ _ _ _ _ => (ce_tup (ca_cons (ce_bop (fun ok => add_S ok.k) (ce_var 3) (ce_var 2)) (ca_cons (ce_bop (fun ok => add_S ok.k) (ce_var 4) (ce_var 2)) ca_nil)))))) ca_nil)))
    (css_cons (cs_if (ct_not (ct_of (ce_callP (D__law_is.dk (hr.mono (by decide))) (by rfl) (ca_cons (ce_callP (D_net_of.dk (hr.mono (by decide))) (by rfl) (ca_cons (ce_var 1) ca_nil)) (ca_cons (ce_callP (D__law_net.dk (hr.mono (by decide))) (by rfl) (ca_cons (ce_var 1) ca_nil)) ca_nil))))) (css_one (cs_ret ce_bl)) css_nil)
    (css_cons (cs_for (ci_seq (ce_var 1)) (cg_name 5) (css_one (cs_for (ci_seq (ce_var 1)) (cg_name 6) (css_cons (cs_set 7 (ce_callP (D_relation.dk (hr.mono (by decide))) (by rfl) (ca_cons (ce_var 5) (ca_cons (ce_var 6) ca_nil))))
    (css_cons (cs_if (ct_cw (cw_or (ct_not (ct_of (ce_callP (D__law_is.dk (hr.mono (by decide))) (by rfl) (ca_cons (ce_var 7) (ca_cons (ce_callP (D__law_relation.dk (hr.mono (by decide))) (by rfl) (ca_cons (ce_var 5) (ca_cons (ce_var 6) ca_nil))) ca_nil))))) (cw_or1 (ct_cop (fun ok => ne_S ok) isB_dd (ce_callP (D_relation.dk (hr.mono (by decide))) (by rfl) (ca_cons (ce_var 6) (ca_cons (ce_var 5) ca_nil))) (ce_bop (fun ok => sub_S) ce_int (ce_var 7)) (by first | exact nomark _ | rfl | decide))))) (css_one (cs_ret ce_bl)) css_nil)
    (css_one (cs_if (ct_not (ct_of (ce_callP (D__law_is.dk (hr.mono (by decide))) (by rfl) (ca_cons (ce_callP (D_turned_relation.dk (hr.mono (by decide))) (by rfl) (ca_cons (ce_var 7) ca_nil)) (ca_cons (ce_bop (fun ok => sub_S) ce_int (ce_var 7)) ca_nil))))) (css_one (cs_ret ce_bl)) css_nil)))))))
    (css_one (cs_ret ce_bl))))))))
theorem ok_law (F : Fun K "law" "law" s_law f fd) (B : Bt ⟨K, cA, cF⟩ mg) (D_relation : Df P w K mg base ⟨K, cA, cF⟩ 5 "relation" 2 d_relation) (D__law_hand : Df P w K mg base ⟨K, cA, cF⟩ 1 "_law_hand" 1 d__law_hand) (D__law_is : Df P w K mg base ⟨K, cA, cF⟩ 21 "_law_is" 2 d__law_is) (D__law_is_case_right : Df P w K mg base ⟨K, cA, cF⟩ 22 "_law_is_case_right" 1 d__law_is_case_right) : FnOk P w K mg base (L2.CX P w) 23 f fd ["script"] (spOf ⟨K, cA, cF⟩ d_law 1) :=
  fn_okX (k := 22) (ps := ["script"]) (N := ["script", "hand", "told", "turn"]) (ms := b_law) rfl F sc_law (fun cdv A outer s H E hr => (css_cons (cs_set 1 (ce_loc (cn_callNP (D__law_hand.dk (hr.mono (by decide))) (by rfl) (ca_cons (ce_var 0) ca_nil))))
    (css_cons (cs_set 2 (ce_frz (cn_lst (ca_cons (ce_callP (D_relation.dk (hr.mono (by decide))) (by rfl) (ca_cons (ce_tup (ca_cons ce_int (ca_cons ce_int ca_nil))) (ca_cons (ce_tup (ca_cons ce_int (ca_cons ce_int ca_nil))) ca_nil))) (ca_cons (ce_callP (D_relation.dk (hr.mono (by decide))) (by rfl) (ca_cons (ce_tup (ca_cons ce_int (ca_cons ce_int ca_nil))) (ca_cons (ce_tup (ca_cons ce_int (ca_cons ce_int ca_nil))) ca_nil))) (ca_cons (ce_callP (D_relation.dk (hr.mono (by decide))) (by rfl) (ca_cons (ce_tup (ca_cons ce_int (ca_cons ce_int ca_nil))) (ca_cons (ce_tup (ca_cons ce_int (ca_cons ce_int ca_nil))) ca_nil))) (ca_cons (ce_callP (D_relation.dk (hr.mono (by decide))) (by rfl) (ca_cons (ce_tup (ca_cons ce_int (ca_cons ce_int ca_nil))) (ca_cons (ce_tup (ca_cons ce_int (ca_cons ce_int ca_nil))) ca_nil))) ca_nil)))))))
    (css_cons (cs_set 2 (ce_bop (fun ok => add_S ok.k) (ce_var 2) (ce_frz (cn_lst (ca_cons (ce_callP (D_relation.dk (hr.mono (by decide))) (by rfl) (ca_cons (ce_tup (ca_cons ce_int (ca_cons ce_int ca_nil))) (ca_cons (ce_tup (ca_cons ce_int (ca_cons ce_int ca_nil))) ca_nil))) (ca_cons (ce_callP (D_relation.dk (hr.mono (by decide))) (by rfl) (ca_cons (ce_tup (ca_cons ce_int (ca_cons ce_int ca_nil))) (ca_cons (ce_tup (ca_cons ce_int (ca_cons ce_int ca_nil))) ca_nil))) (ca_cons (ce_callP (D_relation.dk (hr.mono (by decide))) (by rfl) (ca_cons (ce_tup (ca_cons ce_int (ca_cons ce_int ca_nil))) (ca_cons (ce_tup (ca_cons ce_int (ca_cons ce_int ca_nil))) ca_nil))) ca_nil)))))))
    (css_cons (cs_set 2 (ce_bop (fun ok => add_S ok.k) (ce_var 2) (ce_frz (cn_lst (ca_cons (ce_callP (D_relation.dk (hr.mono (by decide))) (by rfl) (ca_cons (ce_tup (ca_cons ce_int (ca_cons ce_int ca_nil))) (ca_cons (ce_tup (ca_cons ce_int (ca_cons ce_int ca_nil))) ca_nil))) (ca_cons (ce_callP (D_relation.dk (hr.mono (by decide))) (by rfl) (ca_cons (ce_tup (ca_cons ce_int (ca_cons ce_int ca_nil))) (ca_cons (ce_tup (ca_cons ce_int (ca_cons ce_int ca_nil))) ca_nil))) (ca_cons (ce_callP (D_relation.dk (hr.mono (by decide))) (by rfl) (ca_cons (ce_tup (ca_cons ce_int (ca_cons ce_int ca_nil))) (ca_cons (ce_tup (ca_cons ce_int (ca_cons ce_int ca_nil))) ca_nil))) ca_nil)))))))
    (css_cons (cs_set 2 (ce_bop (fun ok => add_S ok.k) (ce_var 2) (ce_frz (cn_lst (ca_cons (ce_callP (D_relation.dk (hr.mono (by decide))) (by rfl) (ca_cons (ce_tup (ca_cons ce_int (ca_cons ce_int ca_nil))) (ca_cons (ce_tup (ca_cons ce_int (ca_cons ce_int ca_nil))) ca_nil))) (ca_cons (ce_callP (D_relation.dk (hr.mono (by decide))) (by rfl) (ca_cons (ce_tup (ca_cons ce_int (ca_cons ce_int ca_nil))) (ca_cons (ce_tup (ca_cons ce_int (ca_cons ce_int ca_nil))) ca_nil))) ca_nil))))))
    (css_cons (cs_if (ct_not (ct_of (ce_callP (D__law_is.dk (hr.mono (by decide))) (by rfl) (ca_cons (ce_var 2) (ca_cons (ce_frz (cn_lst (ca_cons ce_int (ca_cons ce_int (ca_cons ce_int (ca_cons ce_int (ca_cons ce_int (ca_cons ce_int (ca_cons ce_int (ca_cons ce_int (ca_cons ce_int (ca_cons ce_int (ca_cons ce_int (ca_cons ce_int ca_nil)))))))))))))) ca_nil))))) (css_one (cs_ret ce_bl)) css_nil)
    (css_one (cs_ret (ce_callB (fun ok => all_S ok) (by rfl) B.b_all bb_all (ca_cons (ce_frz (cn_comp [("turn", 3)] (ci_range1 ce_int (by rfl) B.b_range) (fun _ _ _ _ _ => (cg_name 3)) (fun _ _ _ _ _ => cts_nil) (fun _ _ _ _ _ => (ce_callD (D__law_is_case_right.dk (hr.mono (by decide))) (by rfl) (ca_cons (ce_var 1) ca_nil))))) ca_nil)))))))))))
end
theorem all_mk {l : PySem.W.OpenLaw} {w : World} {K : PySem.W.Frag} {h : Heap} {mg : Str → Option Value} {fa : Addr} (X : K.In h) (G : h.Ns mainGlobals mg) (hfa : mg "law" = some (.ref fa))
    {f_0 : Addr} {od0 an0 : Option Addr} {sl0 : Array (Option Value)} {oc0 kV0 dc0 pm0 cd0 ct0 : Value} {f_1 : Addr} {od1 an1 : Option Addr} {sl1 : Array (Option Value)} {oc1 kV1 dc1 pm1 cd1 ct1 : Value} {f_2 : Addr} {od2 an2 : Option Addr} {sl2 : Array (Option Value)} {oc2 kV2 dc2 pm2 cd2 ct2 : Value} {f_3 : Addr} {od3 an3 : Option Addr} {sl3 : Array (Option Value)} {oc3 kV3 dc3 pm3 cd3 ct3 : Value} {f_4 : Addr} {od4 an4 : Option Addr} {sl4 : Array (Option Value)} {oc4 kV4 dc4 pm4 cd4 ct4 : Value} {f_5 : Addr} {od5 an5 : Option Addr} {sl5 : Array (Option Value)} {oc5 kV5 dc5 pm5 cd5 ct5 : Value} {f_6 : Addr} {od6 an6 : Option Addr} {sl6 : Array (Option Value)} {oc6 kV6 dc6 pm6 cd6 ct6 : Value} {f_7 : Addr} {od7 an7 : Option Addr} {sl7 : Array (Option Value)} {oc7 kV7 dc7 pm7 cd7 ct7 : Value} {f_8 : Addr} {od8 an8 : Option Addr} {sl8 : Array (Option Value)} {oc8 kV8 dc8 pm8 cd8 ct8 : Value} {f_9 : Addr} {od9 an9 : Option Addr} {sl9 : Array (Option Value)} {oc9 kV9 dc9 pm9 cd9 ct9 : Value} {f_10 : Addr} {od10 an10 : Option Addr} {sl10 : Array (Option Value)} {oc10 kV10 dc10 pm10 cd10 ct10 : Value} {f_11 : Addr} {od11 an11 : Option Addr} {sl11 : Array (Option Value)} {oc11 kV11 dc11 pm11 cd11 ct11 : Value} {f_12 : Addr} {od12 an12 : Option Addr} {sl12 : Array (Option Value)} {oc12 kV12 dc12 pm12 cd12 ct12 : Value} {f_13 : Addr} {od13 an13 : Option Addr} {sl13 : Array (Option Value)} {oc13 kV13 dc13 pm13 cd13 ct13 : Value} {f_14 : Addr} {od14 an14 : Option Addr} {sl14 : Array (Option Value)} {oc14 kV14 dc14 pm14 cd14 ct14 : Value} {f_15 : Addr} {od15 an15 : Option Addr} {sl15 : Array (Option Value)} {oc15 kV15 dc15 pm15 cd15 ct15 : Value} {f_16 : Addr} {od16 an16 : Option Addr} {sl16 : Array (Option Value)} {oc16 kV16 dc16 pm16 cd16 ct16 : Value} {f_17 : Addr} {od17 an17 : Option Addr} {sl17 : Array (Option Value)} {oc17 kV17 dc17 pm17 cd17 ct17 : Value} {f_18 : Addr} {od18 an18 : Option Addr} {sl18 : Array (Option Value)} {oc18 kV18 dc18 pm18 cd18 ct18 : Value} {f_19 : Addr} {od19 an19 : Option Addr} {sl19 : Array (Option Value)} {oc19 kV19 dc19 pm19 cd19 ct19 : Value} {f_20 : Addr} {od20 an20 : Option Addr} {sl20 : Array (Option Value)} {oc20 kV20 dc20 pm20 cd20 ct20 : Value} {f_21 : Addr} {od21 an21 : Option Addr} {sl21 : Array (Option Value)} {oc21 kV21 dc21 pm21 cd21 ct21 : Value} {f_22 : Addr} {od22 an22 : Option Addr} {sl22 : Array (Option Value)} {oc22 kV22 dc22 pm22 cd22 ct22 : Value} {f_23 : Addr} {od23 an23 : Option Addr} {sl23 : Array (Option Value)} {oc23 kV23 dc23 pm23 cd23 ct23 : Value} {f_24 : Addr} {od24 an24 : Option Addr} {sl24 : Array (Option Value)} {oc24 kV24 dc24 pm24 cd24 ct24 : Value} {tk_LEAST_SPANS : Tok} {ad_SIGNS : Addr} {ob_SIGNS : Obj} {tk_MOST_RELATION : Tok} {tk_MOST_PLACE : Tok} {tk_MOST_SPANS : Tok}
    (a0 : PySem.W.nsIn K mainGlobals "is_integer" = some (some (.ref f_0)))
    (l0 : K.lookup f_0 = some ⟨oc0, od0, .func (PySem.W.fnOf "is_integer" "is_integer" (defArgs s_is_integer) (defBody s_is_integer) (defScope s_is_integer) .none kV0 dc0 pm0 an0 cd0 ct0), sl0⟩)
    (c0 : PySem.W.codeIn K cd0 "is_integer" = true)
    (k0 : PySem.W.keepIn K (.ref f_0) = true)
    (a1 : PySem.W.nsIn K mainGlobals "is_within" = some (some (.ref f_1)))
    (l1 : K.lookup f_1 = some ⟨oc1, od1, .func (PySem.W.fnOf "is_within" "is_within" (defArgs s_is_within) (defBody s_is_within) (defScope s_is_within) .none kV1 dc1 pm1 an1 cd1 ct1), sl1⟩)
    (c1 : PySem.W.codeIn K cd1 "is_within" = true)
    (k1 : PySem.W.keepIn K (.ref f_1) = true)
    (a2 : PySem.W.nsIn K mainGlobals "is_stretch" = some (some (.ref f_2)))
    (l2 : K.lookup f_2 = some ⟨oc2, od2, .func (PySem.W.fnOf "is_stretch" "is_stretch" (defArgs s_is_stretch) (defBody s_is_stretch) (defScope s_is_stretch) .none kV2 dc2 pm2 an2 cd2 ct2), sl2⟩)
    (c2 : PySem.W.codeIn K cd2 "is_stretch" = true)
    (k2 : PySem.W.keepIn K (.ref f_2) = true)
    (a3 : PySem.W.nsIn K mainGlobals "is_span" = some (some (.ref f_3)))
    (l3 : K.lookup f_3 = some ⟨oc3, od3, .func (PySem.W.fnOf "is_span" "is_span" (defArgs s_is_span) (defBody s_is_span) (defScope s_is_span) .none kV3 dc3 pm3 an3 cd3 ct3), sl3⟩)
    (c3 : PySem.W.codeIn K cd3 "is_span" = true)
    (k3 : PySem.W.keepIn K (.ref f_3) = true)
    (a4 : PySem.W.nsIn K mainGlobals "compared" = some (some (.ref f_4)))
    (l4 : K.lookup f_4 = some ⟨oc4, od4, .func (PySem.W.fnOf "compared" "compared" (defArgs s_compared) (defBody s_compared) (defScope s_compared) .none kV4 dc4 pm4 an4 cd4 ct4), sl4⟩)
    (c4 : PySem.W.codeIn K cd4 "compared" = true)
    (k4 : PySem.W.keepIn K (.ref f_4) = true)
    (a5 : PySem.W.nsIn K mainGlobals "signs_of" = some (some (.ref f_5)))
    (l5 : K.lookup f_5 = some ⟨oc5, od5, .func (PySem.W.fnOf "signs_of" "signs_of" (defArgs s_signs_of) (defBody s_signs_of) (defScope s_signs_of) .none kV5 dc5 pm5 an5 cd5 ct5), sl5⟩)
    (c5 : PySem.W.codeIn K cd5 "signs_of" = true)
    (k5 : PySem.W.keepIn K (.ref f_5) = true)
    (a6 : PySem.W.nsIn K mainGlobals "raw_relation" = some (some (.ref f_6)))
    (l6 : K.lookup f_6 = some ⟨oc6, od6, .func (PySem.W.fnOf "raw_relation" "raw_relation" (defArgs s_raw_relation) (defBody s_raw_relation) (defScope s_raw_relation) .none kV6 dc6 pm6 an6 cd6 ct6), sl6⟩)
    (c6 : PySem.W.codeIn K cd6 "raw_relation" = true)
    (k6 : PySem.W.keepIn K (.ref f_6) = true)
    (a7 : PySem.W.nsIn K mainGlobals "relation" = some (some (.ref f_7)))
    (l7 : K.lookup f_7 = some ⟨oc7, od7, .func (PySem.W.fnOf "relation" "relation" (defArgs s_relation) (defBody s_relation) (defScope s_relation) .none kV7 dc7 pm7 an7 cd7 ct7), sl7⟩)
    (c7 : PySem.W.codeIn K cd7 "relation" = true)
    (k7 : PySem.W.keepIn K (.ref f_7) = true)
    (a8 : PySem.W.nsIn K mainGlobals "_law_hand" = some (some (.ref f_8)))
    (l8 : K.lookup f_8 = some ⟨oc8, od8, .func (PySem.W.fnOf "_law_hand" "_law_hand" (defArgs s__law_hand) (defBody s__law_hand) (defScope s__law_hand) .none kV8 dc8 pm8 an8 cd8 ct8), sl8⟩)
    (c8 : PySem.W.codeIn K cd8 "_law_hand" = true)
    (k8 : PySem.W.keepIn K (.ref f_8) = true)
    (a9 : PySem.W.nsIn K mainGlobals "_law_is" = some (some (.ref f_9)))
    (l9 : K.lookup f_9 = some ⟨oc9, od9, .func (PySem.W.fnOf "_law_is" "_law_is" (defArgs s__law_is) (defBody s__law_is) (defScope s__law_is) .none kV9 dc9 pm9 an9 cd9 ct9), sl9⟩)
    (c9 : PySem.W.codeIn K cd9 "_law_is" = true)
    (k9 : PySem.W.keepIn K (.ref f_9) = true)
    (a10 : PySem.W.nsIn K mainGlobals "check_relation" = some (some (.ref f_10)))
    (l10 : K.lookup f_10 = some ⟨oc10, od10, .func (PySem.W.fnOf "check_relation" "check_relation" (defArgs s_check_relation) (defBody s_check_relation) (defScope s_check_relation) .none kV10 dc10 pm10 an10 cd10 ct10), sl10⟩)
    (c10 : PySem.W.codeIn K cd10 "check_relation" = true)
    (k10 : PySem.W.keepIn K (.ref f_10) = true)
    (a11 : PySem.W.nsIn K mainGlobals "turned_relation" = some (some (.ref f_11)))
    (l11 : K.lookup f_11 = some ⟨oc11, od11, .func (PySem.W.fnOf "turned_relation" "turned_relation" (defArgs s_turned_relation) (defBody s_turned_relation) (defScope s_turned_relation) .none kV11 dc11 pm11 an11 cd11 ct11), sl11⟩)
    (c11 : PySem.W.codeIn K cd11 "turned_relation" = true)
    (k11 : PySem.W.keepIn K (.ref f_11) = true)
    (a12 : PySem.W.nsIn K mainGlobals "are_spans" = some (some (.ref f_12)))
    (l12 : K.lookup f_12 = some ⟨oc12, od12, .func (PySem.W.fnOf "are_spans" "are_spans" (defArgs s_are_spans) (defBody s_are_spans) (defScope s_are_spans) .none kV12 dc12 pm12 an12 cd12 ct12), sl12⟩)
    (c12 : PySem.W.codeIn K cd12 "are_spans" = true)
    (k12 : PySem.W.keepIn K (.ref f_12) = true)
    (a13 : PySem.W.nsIn K mainGlobals "all_ties" = some (some (.ref f_13)))
    (l13 : K.lookup f_13 = some ⟨oc13, od13, .func (PySem.W.fnOf "all_ties" "all_ties" (defArgs s_all_ties) (defBody s_all_ties) (defScope s_all_ties) .none kV13 dc13 pm13 an13 cd13 ct13), sl13⟩)
    (c13 : PySem.W.codeIn K cd13 "all_ties" = true)
    (k13 : PySem.W.keepIn K (.ref f_13) = true)
    (a14 : PySem.W.nsIn K mainGlobals "raw_net" = some (some (.ref f_14)))
    (l14 : K.lookup f_14 = some ⟨oc14, od14, .func (PySem.W.fnOf "raw_net" "raw_net" (defArgs s_raw_net) (defBody s_raw_net) (defScope s_raw_net) .none kV14 dc14 pm14 an14 cd14 ct14), sl14⟩)
    (c14 : PySem.W.codeIn K cd14 "raw_net" = true)
    (k14 : PySem.W.keepIn K (.ref f_14) = true)
    (a15 : PySem.W.nsIn K mainGlobals "net_of" = some (some (.ref f_15)))
    (l15 : K.lookup f_15 = some ⟨oc15, od15, .func (PySem.W.fnOf "net_of" "net_of" (defArgs s_net_of) (defBody s_net_of) (defScope s_net_of) .none kV15 dc15 pm15 an15 cd15 ct15), sl15⟩)
    (c15 : PySem.W.codeIn K cd15 "net_of" = true)
    (k15 : PySem.W.keepIn K (.ref f_15) = true)
    (a16 : PySem.W.nsIn K mainGlobals "_law_draw" = some (some (.ref f_16)))
    (l16 : K.lookup f_16 = some ⟨oc16, od16, .func (PySem.W.fnOf "_law_draw" "_law_draw" (defArgs s__law_draw) (defBody s__law_draw) (defScope s__law_draw) .none kV16 dc16 pm16 an16 cd16 ct16), sl16⟩)
    (c16 : PySem.W.codeIn K cd16 "_law_draw" = true)
    (k16 : PySem.W.keepIn K (.ref f_16) = true)
    (a17 : PySem.W.nsIn K mainGlobals "_law_some" = some (some (.ref f_17)))
    (l17 : K.lookup f_17 = some ⟨oc17, od17, .func (PySem.W.fnOf "_law_some" "_law_some" (defArgs s__law_some) (defBody s__law_some) (defScope s__law_some) .none kV17 dc17 pm17 an17 cd17 ct17), sl17⟩)
    (c17 : PySem.W.codeIn K cd17 "_law_some" = true)
    (k17 : PySem.W.keepIn K (.ref f_17) = true)
    (a18 : PySem.W.nsIn K mainGlobals "_law_turned_one" = some (some (.ref f_18)))
    (l18 : K.lookup f_18 = some ⟨oc18, od18, .func (PySem.W.fnOf "_law_turned_one" "_law_turned_one" (defArgs s__law_turned_one) (defBody s__law_turned_one) (defScope s__law_turned_one) .none kV18 dc18 pm18 an18 cd18 ct18), sl18⟩)
    (c18 : PySem.W.codeIn K cd18 "_law_turned_one" = true)
    (k18 : PySem.W.keepIn K (.ref f_18) = true)
    (a19 : PySem.W.nsIn K mainGlobals "_law_relation" = some (some (.ref f_19)))
    (l19 : K.lookup f_19 = some ⟨oc19, od19, .func (PySem.W.fnOf "_law_relation" "_law_relation" (defArgs s__law_relation) (defBody s__law_relation) (defScope s__law_relation) .none kV19 dc19 pm19 an19 cd19 ct19), sl19⟩)
    (c19 : PySem.W.codeIn K cd19 "_law_relation" = true)
    (k19 : PySem.W.keepIn K (.ref f_19) = true)
    (a20 : PySem.W.nsIn K mainGlobals "_law_spans" = some (some (.ref f_20)))
    (l20 : K.lookup f_20 = some ⟨oc20, od20, .func (PySem.W.fnOf "_law_spans" "_law_spans" (defArgs s__law_spans) (defBody s__law_spans) (defScope s__law_spans) .none kV20 dc20 pm20 an20 cd20 ct20), sl20⟩)
    (c20 : PySem.W.codeIn K cd20 "_law_spans" = true)
    (k20 : PySem.W.keepIn K (.ref f_20) = true)
    (a21 : PySem.W.nsIn K mainGlobals "_law_pairs" = some (some (.ref f_21)))
    (l21 : K.lookup f_21 = some ⟨oc21, od21, .func (PySem.W.fnOf "_law_pairs" "_law_pairs" (defArgs s__law_pairs) (defBody s__law_pairs) (defScope s__law_pairs) .none kV21 dc21 pm21 an21 cd21 ct21), sl21⟩)
    (c21 : PySem.W.codeIn K cd21 "_law_pairs" = true)
    (k21 : PySem.W.keepIn K (.ref f_21) = true)
    (a22 : PySem.W.nsIn K mainGlobals "_law_net" = some (some (.ref f_22)))
    (l22 : K.lookup f_22 = some ⟨oc22, od22, .func (PySem.W.fnOf "_law_net" "_law_net" (defArgs s__law_net) (defBody s__law_net) (defScope s__law_net) .none kV22 dc22 pm22 an22 cd22 ct22), sl22⟩)
    (c22 : PySem.W.codeIn K cd22 "_law_net" = true)
    (k22 : PySem.W.keepIn K (.ref f_22) = true)
    (a23 : PySem.W.nsIn K mainGlobals "_law_is_case_right" = some (some (.ref f_23)))
    (l23 : K.lookup f_23 = some ⟨oc23, od23, .func (PySem.W.fnOf "_law_is_case_right" "_law_is_case_right" (defArgs s__law_is_case_right) (defBody s__law_is_case_right) (defScope s__law_is_case_right) .none kV23 dc23 pm23 an23 cd23 ct23), sl23⟩)
    (c23 : PySem.W.codeIn K cd23 "_law_is_case_right" = true)
    (k23 : PySem.W.keepIn K (.ref f_23) = true)
    (a24 : PySem.W.nsIn K mainGlobals "law" = some (some (.ref f_24)))
    (l24 : K.lookup f_24 = some ⟨oc24, od24, .func (PySem.W.fnOf "law" "law" (defArgs s_law) (defBody s_law) (defScope s_law) .none kV24 dc24 pm24 an24 cd24 ct24), sl24⟩)
    (c24 : PySem.W.codeIn K cd24 "law" = true)
    (k24 : PySem.W.keepIn K (.ref f_24) = true)
    (z_abs : PySem.W.nsIn K mainGlobals "abs" = some none)
    (z_all : PySem.W.nsIn K mainGlobals "all" = some none)
    (z_bool : PySem.W.nsIn K mainGlobals "bool" = some none)
    (z_int : PySem.W.nsIn K mainGlobals "int" = some none)
    (z_isinstance : PySem.W.nsIn K mainGlobals "isinstance" = some none)
    (z_len : PySem.W.nsIn K mainGlobals "len" = some none)
    (z_list : PySem.W.nsIn K mainGlobals "list" = some none)
    (z_range : PySem.W.nsIn K mainGlobals "range" = some none)
    (z_str : PySem.W.nsIn K mainGlobals "str" = some none)
    (z_tuple : PySem.W.nsIn K mainGlobals "tuple" = some none)
    (z_zip : PySem.W.nsIn K mainGlobals "zip" = some none)
    (g_LEAST_SPANS : PySem.W.nsIn K mainGlobals "LEAST_SPANS" = some (some (.int 2 tk_LEAST_SPANS)))
    (g_SIGNS : PySem.W.nsIn K mainGlobals "SIGNS" = some (some (.ref ad_SIGNS)))
    (r_SIGNS : rdK K 6 (.ref ad_SIGNS) = some c_SIGNS)
    (o_SIGNS : K.lookup ad_SIGNS = some ob_SIGNS)
    (oc_SIGNS : ob_SIGNS.cls = .type "tuple")
    (od_SIGNS : ob_SIGNS.dict = none)
    (g_MOST_RELATION : PySem.W.nsIn K mainGlobals "MOST_RELATION" = some (some (.int 12 tk_MOST_RELATION)))
    (g_MOST_PLACE : PySem.W.nsIn K mainGlobals "MOST_PLACE" = some (some (.int 1000000 tk_MOST_PLACE)))
    (g_MOST_SPANS : PySem.W.nsIn K mainGlobals "MOST_SPANS" = some (some (.int 6 tk_MOST_SPANS)))
    : ∃ fd : FuncData, (∀ (s : Shared) (v : Value), BindsTo s fd ⟨[v], []⟩ [("script", v)]) ∧ ∀ base : Heap, K.In base → base.Ns mainGlobals mg → FnOk l.prog w K mg base (L2.CX l.prog w) 23 fa fd ["script"] (spOf ⟨K, fun _ => 0, fun _ => []⟩ d_law 1) := by
  have e := hfa.symm.trans (PySem.W.mg_of X G a24)
  cases e
  have B : Bt ⟨K, fun _ => 0, fun _ => []⟩ mg := { b_abs := PySem.W.mg_none_of X G z_abs, b_all := PySem.W.mg_none_of X G z_all, b_bool := PySem.W.mg_none_of X G z_bool, b_int := PySem.W.mg_none_of X G z_int, b_isinstance := PySem.W.mg_none_of X G z_isinstance, b_len := PySem.W.mg_none_of X G z_len, b_list := PySem.W.mg_none_of X G z_list, b_range := PySem.W.mg_none_of X G z_range, b_str := PySem.W.mg_none_of X G z_str, b_tuple := PySem.W.mg_none_of X G z_tuple, b_zip := PySem.W.mg_none_of X G z_zip, g_LEAST_SPANS := gk_int (PySem.W.mg_of X G g_LEAST_SPANS), g_SIGNS := gk_rd (PySem.W.mg_of X G g_SIGNS) 6 r_SIGNS, t_SIGNS := gkT_rd (PySem.W.mg_of X G g_SIGNS) o_SIGNS oc_SIGNS od_SIGNS 6 r_SIGNS, g_MOST_RELATION := gk_int (PySem.W.mg_of X G g_MOST_RELATION), g_MOST_PLACE := gk_int (PySem.W.mg_of X G g_MOST_PLACE), g_MOST_SPANS := gk_int (PySem.W.mg_of X G g_MOST_SPANS) }
  have F_0 := fun_mk (st := s_is_integer) l0 c0 k0
  have b_0 : Binds K _ ["thing"] [] := F_0.binds (ps := ["thing"]) fun _ _ _ _ _ _ us hl => match us, hl with | [_], _ => rfl
  have F_1 := fun_mk (st := s_is_within) l1 c1 k1
  have b_1 : Binds K _ ["thing", "low", "high"] [] := F_1.binds (ps := ["thing", "low", "high"]) fun _ _ _ _ _ _ us hl => match us, hl with | [_, _, _], _ => rfl
  have F_2 := fun_mk (st := s_is_stretch) l2 c2 k2
  have b_2 : Binds K _ ["thing"] [] := F_2.binds (ps := ["thing"]) fun _ _ _ _ _ _ us hl => match us, hl with | [_], _ => rfl
  have F_3 := fun_mk (st := s_is_span) l3 c3 k3
  have b_3 : Binds K _ ["thing"] [] := F_3.binds (ps := ["thing"]) fun _ _ _ _ _ _ us hl => match us, hl with | [_], _ => rfl
  have F_4 := fun_mk (st := s_compared) l4 c4 k4
  have b_4 : Binds K _ ["one", "other"] [] := F_4.binds (ps := ["one", "other"]) fun _ _ _ _ _ _ us hl => match us, hl with | [_, _], _ => rfl
  have F_5 := fun_mk (st := s_signs_of) l5 c5 k5
  have b_5 : Binds K _ ["one", "other"] [] := F_5.binds (ps := ["one", "other"]) fun _ _ _ _ _ _ us hl => match us, hl with | [_, _], _ => rfl
  have F_6 := fun_mk (st := s_raw_relation) l6 c6 k6
  have b_6 : Binds K _ ["one", "other"] [] := F_6.binds (ps := ["one", "other"]) fun _ _ _ _ _ _ us hl => match us, hl with | [_, _], _ => rfl
  have F_7 := fun_mk (st := s_relation) l7 c7 k7
  have b_7 : Binds K _ ["one", "other"] [] := F_7.binds (ps := ["one", "other"]) fun _ _ _ _ _ _ us hl => match us, hl with | [_, _], _ => rfl
  have F_8 := fun_mk (st := s__law_hand) l8 c8 k8
  have b_8 : Binds K _ ["script"] [] := F_8.binds (ps := ["script"]) fun _ _ _ _ _ _ us hl => match us, hl with | [_], _ => rfl
  have F_9 := fun_mk (st := s__law_is) l9 c9 k9
  have b_9 : Binds K _ ["got", "due"] [] := F_9.binds (ps := ["got", "due"]) fun _ _ _ _ _ _ us hl => match us, hl with | [_, _], _ => rfl
  have F_10 := fun_mk (st := s_check_relation) l10 c10 k10
  have b_10 : Binds K _ ["number"] [] := F_10.binds (ps := ["number"]) fun _ _ _ _ _ _ us hl => match us, hl with | [_], _ => rfl
  have F_11 := fun_mk (st := s_turned_relation) l11 c11 k11
  have b_11 : Binds K _ ["number"] [] := F_11.binds (ps := ["number"]) fun _ _ _ _ _ _ us hl => match us, hl with | [_], _ => rfl
  have F_12 := fun_mk (st := s_are_spans) l12 c12 k12
  have b_12 : Binds K _ ["thing"] [] := F_12.binds (ps := ["thing"]) fun _ _ _ _ _ _ us hl => match us, hl with | [_], _ => rfl
  have F_13 := fun_mk (st := s_all_ties) l13 c13 k13
  have b_13 : Binds K _ ["many"] [] := F_13.binds (ps := ["many"]) fun _ _ _ _ _ _ us hl => match us, hl with | [_], _ => rfl
  have F_14 := fun_mk (st := s_raw_net) l14 c14 k14
  have b_14 : Binds K _ ["spans"] [] := F_14.binds (ps := ["spans"]) fun _ _ _ _ _ _ us hl => match us, hl with | [_], _ => rfl
  have F_15 := fun_mk (st := s_net_of) l15 c15 k15
  have b_15 : Binds K _ ["spans"] [] := F_15.binds (ps := ["spans"]) fun _ _ _ _ _ _ us hl => match us, hl with | [_], _ => rfl
  have F_16 := fun_mk (st := s__law_draw) l16 c16 k16
  have b_16 : Binds K _ ["hand", "many"] [] := F_16.binds (ps := ["hand", "many"]) fun _ _ _ _ _ _ us hl => match us, hl with | [_, _], _ => rfl
  have F_17 := fun_mk (st := s__law_some) l17 c17 k17
  have b_17 : Binds K _ ["hand", "things"] [] := F_17.binds (ps := ["hand", "things"]) fun _ _ _ _ _ _ us hl => match us, hl with | [_, _], _ => rfl
  have F_18 := fun_mk (st := s__law_turned_one) l18 c18 k18
  have b_18 : Binds K _ ["one", "other"] [] := F_18.binds (ps := ["one", "other"]) fun _ _ _ _ _ _ us hl => match us, hl with | [_, _], _ => rfl
  have F_19 := fun_mk (st := s__law_relation) l19 c19 k19
  have b_19 : Binds K _ ["one", "other"] [] := F_19.binds (ps := ["one", "other"]) fun _ _ _ _ _ _ us hl => match us, hl with | [_, _], _ => rfl
  have F_20 := fun_mk (st := s__law_spans) l20 c20 k20
  have b_20 : Binds K _ ["hand", "many"] [] := F_20.binds (ps := ["hand", "many"]) fun _ _ _ _ _ _ us hl => match us, hl with | [_, _], _ => rfl
  have F_21 := fun_mk (st := s__law_pairs) l21 c21 k21
  have b_21 : Binds K _ ["many"] [] := F_21.binds (ps := ["many"]) fun _ _ _ _ _ _ us hl => match us, hl with | [_], _ => rfl
  have F_22 := fun_mk (st := s__law_net) l22 c22 k22
  have b_22 : Binds K _ ["spans"] [] := F_22.binds (ps := ["spans"]) fun _ _ _ _ _ _ us hl => match us, hl with | [_], _ => rfl
  have F_23 := fun_mk (st := s__law_is_case_right) l23 c23 k23
  have b_23 : Binds K _ ["hand"] [] := F_23.binds (ps := ["hand"]) fun _ _ _ _ _ _ us hl => match us, hl with | [_], _ => rfl
  have F_24 := fun_mk (st := s_law) l24 c24 k24
  refine ⟨PySem.W.fnOf "law" "law" (defArgs s_law) (defBody s_law) (defScope s_law) .none kV24 dc24 pm24 an24 cd24 ct24, fun s v => .of_eq rfl, fun base _ _ => ?_⟩
  have D_is_integer : Df l.prog w K mg base ⟨K, fun _ => 0, fun _ => []⟩ 1 "is_integer" 1 d_is_integer := Df.mk' F_0 (ok_is_integer F_0 B ) (PySem.W.mg_of X G a0) b_0
  have D_is_within : Df l.prog w K mg base ⟨K, fun _ => 0, fun _ => []⟩ 2 "is_within" 3 d_is_within := Df.mk' F_1 (ok_is_within F_1 B D_is_integer) (PySem.W.mg_of X G a1) b_1
  have D_is_stretch : Df l.prog w K mg base ⟨K, fun _ => 0, fun _ => []⟩ 3 "is_stretch" 1 d_is_stretch := Df.mk' F_2 (ok_is_stretch F_2 B D_is_within) (PySem.W.mg_of X G a2) b_2
  have D_is_span : Df l.prog w K mg base ⟨K, fun _ => 0, fun _ => []⟩ 4 "is_span" 1 d_is_span := Df.mk' F_3 (ok_is_span F_3 B D_is_stretch) (PySem.W.mg_of X G a3) b_3
  have D_compared : Df l.prog w K mg base ⟨K, fun _ => 0, fun _ => []⟩ 1 "compared" 2 d_compared := Df.mk' F_4 (ok_compared F_4 B ) (PySem.W.mg_of X G a4) b_4
  have D_signs_of : Df l.prog w K mg base ⟨K, fun _ => 0, fun _ => []⟩ 2 "signs_of" 2 d_signs_of := Df.mk' F_5 (ok_signs_of F_5 B D_compared) (PySem.W.mg_of X G a5) b_5
  have D_raw_relation : Df l.prog w K mg base ⟨K, fun _ => 0, fun _ => []⟩ 3 "raw_relation" 2 d_raw_relation := Df.mk' F_6 (ok_raw_relation F_6 B D_signs_of) (PySem.W.mg_of X G a6) b_6
  have D_relation : Df l.prog w K mg base ⟨K, fun _ => 0, fun _ => []⟩ 5 "relation" 2 d_relation := Df.mk' F_7 (ok_relation F_7 B D_is_span D_raw_relation) (PySem.W.mg_of X G a7) b_7
  have D__law_hand : Df l.prog w K mg base ⟨K, fun _ => 0, fun _ => []⟩ 1 "_law_hand" 1 d__law_hand := Df.mk' F_8 (ok__law_hand F_8 B ) (PySem.W.mg_of X G a8) b_8
  have D__law_is : Df l.prog w K mg base ⟨K, fun _ => 0, fun _ => []⟩ 21 "_law_is" 2 d__law_is := Df.mk' F_9 (ok__law_is F_9 B  (PySem.W.mg_of X G a9) b_9) (PySem.W.mg_of X G a9) b_9
  have D_check_relation : Df l.prog w K mg base ⟨K, fun _ => 0, fun _ => []⟩ 3 "check_relation" 1 d_check_relation := Df.mk' F_10 (ok_check_relation F_10 B D_is_within) (PySem.W.mg_of X G a10) b_10
  have D_turned_relation : Df l.prog w K mg base ⟨K, fun _ => 0, fun _ => []⟩ 4 "turned_relation" 1 d_turned_relation := Df.mk' F_11 (ok_turned_relation F_11 B D_check_relation) (PySem.W.mg_of X G a11) b_11
  have D_are_spans : Df l.prog w K mg base ⟨K, fun _ => 0, fun _ => []⟩ 5 "are_spans" 1 d_are_spans := Df.mk' F_12 (ok_are_spans F_12 B D_is_span) (PySem.W.mg_of X G a12) b_12
  have D_all_ties : Df l.prog w K mg base ⟨K, fun _ => 0, fun _ => []⟩ 1 "all_ties" 1 d_all_ties := Df.mk' F_13 (ok_all_ties F_13 B ) (PySem.W.mg_of X G a13) b_13
  have D_raw_net : Df l.prog w K mg base ⟨K, fun _ => 0, fun _ => []⟩ 4 "raw_net" 1 d_raw_net := Df.mk' F_14 (ok_raw_net F_14 B D_raw_relation D_all_ties) (PySem.W.mg_of X G a14) b_14
  have D_net_of : Df l.prog w K mg base ⟨K, fun _ => 0, fun _ => []⟩ 6 "net_of" 1 d_net_of := Df.mk' F_15 (ok_net_of F_15 B D_are_spans D_raw_net) (PySem.W.mg_of X G a15) b_15
  have D__law_draw : Df l.prog w K mg base ⟨K, fun _ => 0, fun _ => []⟩ 1 "_law_draw" 2 d__law_draw := Df.mk' F_16 (ok__law_draw F_16 B ) (PySem.W.mg_of X G a16) b_16
  have D__law_some : Df l.prog w K mg base ⟨K, fun _ => 0, fun _ => []⟩ 2 "_law_some" 2 d__law_some := Df.mk' F_17 (ok__law_some F_17 B D__law_draw) (PySem.W.mg_of X G a17) b_17
  have D__law_turned_one : Df l.prog w K mg base ⟨K, fun _ => 0, fun _ => []⟩ 1 "_law_turned_one" 2 d__law_turned_one := Df.mk' F_18 (ok__law_turned_one F_18 B ) (PySem.W.mg_of X G a18) b_18
  have D__law_relation : Df l.prog w K mg base ⟨K, fun _ => 0, fun _ => []⟩ 2 "_law_relation" 2 d__law_relation := Df.mk' F_19 (ok__law_relation F_19 B D__law_turned_one) (PySem.W.mg_of X G a19) b_19
  have D__law_spans : Df l.prog w K mg base ⟨K, fun _ => 0, fun _ => []⟩ 3 "_law_spans" 2 d__law_spans := Df.mk' F_20 (ok__law_spans F_20 B D__law_draw D__law_some) (PySem.W.mg_of X G a20) b_20
  have D__law_pairs : Df l.prog w K mg base ⟨K, fun _ => 0, fun _ => []⟩ 1 "_law_pairs" 1 d__law_pairs := Df.mk' F_21 (ok__law_pairs F_21 B ) (PySem.W.mg_of X G a21) b_21
  have D__law_net : Df l.prog w K mg base ⟨K, fun _ => 0, fun _ => []⟩ 3 "_law_net" 1 d__law_net := Df.mk' F_22 (ok__law_net F_22 B D__law_relation D__law_pairs) (PySem.W.mg_of X G a22) b_22
  have D__law_is_case_right : Df l.prog w K mg base ⟨K, fun _ => 0, fun _ => []⟩ 22 "_law_is_case_right" 1 d__law_is_case_right := Df.mk' F_23 (ok__law_is_case_right F_23 B D_relation D__law_is D_turned_relation D_net_of D__law_draw D__law_some D__law_relation D__law_spans D__law_net) (PySem.W.mg_of X G a23) b_23
  exact ok_law F_24 B D_relation D__law_hand D__law_is D__law_is_case_right
end SW

open PySem PySem.W PyProof.Rows
set_option maxRecDepth 100000 in
set_option maxHeartbeats 0 in
theorem PySem.Challenge.cw_stretchwebs_k40_whole_relations_of_spans_holds : PySem.Challenge.rw_stretchwebs_k40_whole_relations_of_spans.Holds := by
  w_on; o_law; k_head; (case hw => w_witness2)
  k_fill
  refine L2.walk_of (l := PySem.Challenge.rw_stretchwebs_k40_whole_relations_of_spans) (n := 63) (k := 23) (x := "script") (CX := fun w => L2.CX PySem.Challenge.rw_stretchwebs_k40_whole_relations_of_spans.prog w) (sp := fun w => SW.spOf ⟨_, fun _ => 0, fun _ => []⟩ SW.d_law 1) rfl (by decide) rfl ⟨rfl, by decide, by decide⟩ (fun w h Y => PySem.W.kIn_of Y) ?F (fun _ _ a ns hl _ hS => SW.law_sp SW.law_math hl hS) (fun w H s e s' c => SW.law_cx w H s e s' c)
  case F =>
    intro w mg fa h KX G hmg
    refine' SW.all_mk KX G hmg ?a0 ?l0 ?c0 ?k0 ?a1 ?l1 ?c1 ?k1 ?a2 ?l2 ?c2 ?k2 ?a3 ?l3 ?c3 ?k3 ?a4 ?l4 ?c4 ?k4 ?a5 ?l5 ?c5 ?k5 ?a6 ?l6 ?c6 ?k6 ?a7 ?l7 ?c7 ?k7 ?a8 ?l8 ?c8 ?k8 ?a9 ?l9 ?c9 ?k9 ?a10 ?l10 ?c10 ?k10 ?a11 ?l11 ?c11 ?k11 ?a12 ?l12 ?c12 ?k12 ?a13 ?l13 ?c13 ?k13 ?a14 ?l14 ?c14 ?k14 ?a15 ?l15 ?c15 ?k15 ?a16 ?l16 ?c16 ?k16 ?a17 ?l17 ?c17 ?k17 ?a18 ?l18 ?c18 ?k18 ?a19 ?l19 ?c19 ?k19 ?a20 ?l20 ?c20 ?k20 ?a21 ?l21 ?c21 ?k21 ?a22 ?l22 ?c22 ?k22 ?a23 ?l23 ?c23 ?k23 ?a24 ?l24 ?c24 ?k24 ?z_abs ?z_all ?z_bool ?z_int ?z_isinstance ?z_len ?z_list ?z_range ?z_str ?z_tuple ?z_zip ?g_LEAST_SPANS ?g_SIGNS ?r_SIGNS ?o_SIGNS ?oc_SIGNS ?od_SIGNS ?g_MOST_RELATION ?g_MOST_PLACE ?g_MOST_SPANS
    (case a0 => k_is); (case l0 => k_is); (case c0 => k_is); (case k0 => k_is); (case a1 => k_is); (case l1 => k_is); (case c1 => k_is); (case k1 => k_is); (case a2 => k_is); (case l2 => k_is); (case c2 => k_is); (case k2 => k_is); (case a3 => k_is); (case l3 => k_is); (case c3 => k_is); (case k3 => k_is); (case a4 => k_is); (case l4 => k_is); (case c4 => k_is); (case k4 => k_is); (case a5 => k_is); (case l5 => k_is); (case c5 => k_is); (case k5 => k_is); (case a6 => k_is); (case l6 => k_is); (case c6 => k_is); (case k6 => k_is); (case a7 => k_is); (case l7 => k_is); (case c7 => k_is); (case k7 => k_is); (case a8 => k_is); (case l8 => k_is); (case c8 => k_is); (case k8 => k_is); (case a9 => k_is); (case l9 => k_is); (case c9 => k_is); (case k9 => k_is); (case a10 => k_is); (case l10 => k_is); (case c10 => k_is); (case k10 => k_is); (case a11 => k_is); (case l11 => k_is); (case c11 => k_is); (case k11 => k_is); (case a12 => k_is); (case l12 => k_is); (case c12 => k_is); (case k12 => k_is); (case a13 => k_is); (case l13 => k_is); (case c13 => k_is); (case k13 => k_is); (case a14 => k_is); (case l14 => k_is); (case c14 => k_is); (case k14 => k_is); (case a15 => k_is); (case l15 => k_is); (case c15 => k_is); (case k15 => k_is); (case a16 => k_is); (case l16 => k_is); (case c16 => k_is); (case k16 => k_is); (case a17 => k_is); (case l17 => k_is); (case c17 => k_is); (case k17 => k_is); (case a18 => k_is); (case l18 => k_is); (case c18 => k_is); (case k18 => k_is); (case a19 => k_is); (case l19 => k_is); (case c19 => k_is); (case k19 => k_is); (case a20 => k_is); (case l20 => k_is); (case c20 => k_is); (case k20 => k_is); (case a21 => k_is); (case l21 => k_is); (case c21 => k_is); (case k21 => k_is); (case a22 => k_is); (case l22 => k_is); (case c22 => k_is); (case k22 => k_is); (case a23 => k_is); (case l23 => k_is); (case c23 => k_is); (case k23 => k_is); (case a24 => k_is); (case l24 => k_is); (case c24 => k_is); (case k24 => k_is); (case z_abs => k_is); (case z_all => k_is); (case z_bool => k_is); (case z_int => k_is); (case z_isinstance => k_is); (case z_len => k_is); (case z_list => k_is); (case z_range => k_is); (case z_str => k_is); (case z_tuple => k_is); (case z_zip => k_is); (case g_LEAST_SPANS => k_is); (case g_SIGNS => k_is); (case r_SIGNS => exact rfl); (case o_SIGNS => k_is); (case oc_SIGNS => exact rfl); (case od_SIGNS => exact rfl); (case g_MOST_RELATION => k_is); (case g_MOST_PLACE => k_is); (case g_MOST_SPANS => k_is)

