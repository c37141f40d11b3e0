import PyProof.Rows.All
import Wide.All
import OpenK.AllK
import Wide.FinOn
import HandS.ForMost
import HandS.Exc
import HandS.OwnEq
import KE.DataEq
import KE.DataCmp
import KE.DataFind
import KE.DataIsa
import KE.DataAny
import KE.DataMinMax
import HandS.TupAny
import HandS.TupMul
import HandS.Conv
import HandS.Strs
import HandS.Style
import HandS.IsInst
import HandS.Walk
import HandS.Comp
import HandS.Iter
import HandS.Rev
import HandS.Zip
import HandS.WordsExc
import HandS.Ends
import HandS.Small
import HandS.ExcOwn
import PyProof.SeqIndex
import KE.SortData
import PyProof.Rows.SortWalk
import KE.GoesEnum
import PyProof.Claim2Refuses
import KE.KRevSl
import HandS.Dict
import HandS.More
import HandS.DictComp
import HandS.WordsDict
import PyProof.DictUpdate
import HandS.TupSets
import PySem.Challenge.RW_stretchwebs_k84_whole_orders_by_age
set_option Elab.async false
set_option linter.all false
set_option autoImplicit false
set_option maxRecDepth 100000
set_option maxHeartbeats 4000000
set_option synthInstance.maxSize 2000
namespace SW
open PySem PySem.Spec PyProof.Rows L2

/-! ### values as trees -/
inductive Val where
  | non
  | bl (b : Bool)
  | int (i : Int)
  | str (x : Str)
  | tup (xs : List Val)
  | lst (xs : List Val)
  | dct (ks vs : List Val)
  | ins (c : Nat) (fs : List Val)
  | ref (l : Nat)

/-- what of the text the relation leans on -/
structure Tab where
  K : PySem.W.Frag
  cA : Nat → Addr
  cF : Nat → List Str

def kVal : Key → Val
  | .inl i => .int i
  | .inr x => .str x

/-- a list of the text's own -/
def KLs (K : PySem.W.Frag) (a : Addr) (xs : List V) : Prop := ∃ (o : Obj) (its : Array Value) (n : Nat), K.lookup a = some o ∧ o.cls = .type "list" ∧ o.dict = none ∧ o.data = .seq its n ∧ its.size ≤ sizeLine ∧ Vals xs its.toList
/-- a tuple made here, known to have no dict of its own -/
def BtO (xs : List V) (o : HO) : Prop := ∃ ob : Obj, o = .frz ob (.tup xs) ∧ ob.dict = none
/-- such a tuple, or one of the text's own -/
def SqB (K : PySem.W.Frag) (H : Hp) (a : Addr) (xs : List V) : Prop := (∃ o, H a = some o ∧ BtO xs o) ∨
  ∃ (o : Obj) (its : Array Value) (n : Nat), K.lookup a = some o ∧ o.cls = .type "tuple" ∧ o.dict = none ∧ o.data = .seq its n ∧ its.size ≤ sizeLine ∧ Vals xs its.toList
theorem SqB.t {K : PySem.W.Frag} {H : Hp} {a : Addr} {xs : List V} (h : SqB K H a xs) : SqT K H a xs := by
  rcases h with ⟨o, e, ob, rfl, _⟩ | ⟨o, its, n, h1, h2, _, h4, h5, h6⟩
  · exact .inl (.inr ⟨ob, e⟩)
  · exact .inr ⟨o, its, n, h1, h2, h4, h5, h6⟩
mutual
/-- the value v of the interpreter is the value x over the abstract heap H; U: what may be written by somebody; m: where the located objects are -/
inductive Rep (T : Tab) (H : Hp) (U : Addr → Prop) (m : List (Option Addr)) : Val → V → Prop
  | non : Rep T H U m .non .non
  | bl (b : Bool) : Rep T H U m (.bl b) (.bl b)
  | int (i : Int) : Rep T H U m (.int i) (.int i)
  | str (x : Str) : Rep T H U m (.str x) (.str x)
  | tup {a : Addr} {xs : List V} {vs : List Val} : vs.length ≤ sizeLine → SqB T.K H a xs → Reps T H U m vs xs → Rep T H U m (.tup vs) (.ref a)
  /-- a pair that a source gives (class 1): it is taken apart at once -/
  | pr {a : Addr} {xs : List V} {vs : List Val} : vs.length ≤ sizeLine → SqT T.K H a xs → Reps T H U m vs xs → Rep T H U m (.ins 1 vs) (.ref a)
  | lst {a : Addr} {xs : List V} {vs : List Val} : vs.length ≤ sizeLine → H a = some (.lst xs) → ¬ U a → Reps T H U m vs xs → Rep T H U m (.lst vs) (.ref a)
  | dK {a : Addr} {kvs : List (Key × V)} {ks vs : List Val} : H a = some (.dK kvs) → ¬ U a → ks = kvs.map (fun p => kVal p.1) → Reps T H U m vs (kvs.map (·.2)) → Rep T H U m (.dct ks vs) (.ref a)
  | dT {a : Addr} {kvs : List (List Key × V)} {ks vs : List Val} : H a = some (.dT kvs) → ¬ U a → ks = Val.non :: kvs.map (fun p => Val.tup (p.1.map kVal)) → Reps T H U m vs (kvs.map (·.2)) → Rep T H U m (.dct ks vs) (.ref a)
  /-- the script (class 0) -/
  | scr {a : Addr} {xs : List V} {vs : List Val} : vs.length ≤ sizeLine → (Rd H a (.lst xs) ∧ ¬ U a) ∨ KLs T.K a xs → Reps T H U m vs xs → Rep T H U m (.ins 0 vs) (.ref a)
  | ins {a dx : Addr} {c : Nat} {xs : List V} {vs : List Val} : 2 ≤ c → H a = some (.ins (T.cA c) dx ((T.cF c).zip xs)) → xs.length ≤ (T.cF c).length → ¬ U a → Reps T H U m vs xs → Rep T H U m (.ins c vs) (.ref a)
  | ref {l : Nat} {x : V} : l < m.length → (∀ a, m[l]? = some (some a) → x = .ref a) → Rep T H U m (.ref l) x
inductive Reps (T : Tab) (H : Hp) (U : Addr → Prop) (m : List (Option Addr)) : List Val → List V → Prop
  | nil : Reps T H U m [] []
  | cons {v : Val} {vs : List Val} {x : V} {xs : List V} : Rep T H U m v x → Reps T H U m vs xs → Reps T H U m (v :: vs) (x :: xs)
end

/-- a is located, and alive -/
def Lv (m : List (Option Addr)) (a : Addr) : Prop := ∃ l : Nat, m[l]? = some (some a)
/-- what is located: some may have died, new ones have come -/
structure Mg (H : Hp) (m m' : List (Option Addr)) : Prop where
  len : m.length ≤ m'.length
  old : ∀ (l : Nat) (a : Addr), l < m.length → m'[l]? = some (some a) → m[l]? = some (some a)
  new : ∀ (l : Nat) (a : Addr), m.length ≤ l → m'[l]? = some (some a) → H a = none
/-- from (H, U, m) to (H', U', m'): what is not of m is kept, U and m grow by new addresses -/
structure Gr (H : Hp) (U : Addr → Prop) (m : List (Option Addr)) (H' : Hp) (U' : Addr → Prop) (m' : List (Option Addr)) : Prop where
  keep : ∀ a o, ¬ Lv m a → H a = some o → H' a = some o
  new : ∀ a, U' a → U a ∨ H a = none
  ext : Mg H m m'
  there : ∀ a, H a ≠ none → H' a ≠ none
  up : ∀ a, U a → H a ≠ none → ¬ Lv m a → U' a
/-- the same, but what is of U may change -/
structure Gw (H : Hp) (U : Addr → Prop) (m : List (Option Addr)) (H' : Hp) (U' : Addr → Prop) (m' : List (Option Addr)) : Prop where
  keep : ∀ a o, ¬ U a → H a = some o → H' a = some o
  new : ∀ a, U' a → U a ∨ H a = none
  len : m.length ≤ m'.length
  old : ∀ (l : Nat) (a : Addr), l < m.length → m'[l]? = some (some a) → m[l]? = some (some a)
/-- U holds what may be written alone -/
def MutU (H : Hp) (U : Addr → Prop) : Prop := ∀ a, U a → ∃ u, H a = some u ∧ Mut (some u)

section
variable {T : Tab} {H H' H2 : Hp} {U U' U2 : Addr → Prop} {m m' m2 : List (Option Addr)}
theorem Mg.refl : Mg H m m := ⟨Nat.le_refl _, fun _ _ _ h => h, fun l a h e => by
  have := (List.getElem?_eq_some_iff.mp e).1
  omega⟩
theorem Gr.refl : Gr H U m H U m := ⟨fun _ _ _ h => h, fun _ h => .inl h, .refl, fun _ h => h, fun _ h _ _ => h⟩
theorem Gr.live (g : Gr H U m H' U' m') {a : Addr} (ha : ¬ Lv m a) {o : HO} (h : H a = some o) : ¬ Lv m' a := fun ⟨l, e⟩ => by
  by_cases hl : l < m.length
  · exact ha ⟨l, g.ext.old l a hl e⟩
  · rw [g.ext.new l a (by omega) e] at h; cases h
theorem Gr.fresh (g : Gr H U m H' U' m') {a : Addr} (h : H' a = none) : H a = none := by
  cases e : H a with
  | none => rfl
  | some o => exact absurd h (g.there a (by rw [e]; exact fun z => nomatch z))
theorem Gr.trans (g : Gr H U m H' U' m') (k : Gr H' U' m' H2 U2 m2) : Gr H U m H2 U2 m2 := by
  refine ⟨fun a o ha h => k.keep a o (g.live ha h) (g.keep a o ha h), fun a h => ?_, ⟨Nat.le_trans g.ext.len k.ext.len, fun l a hl e => g.ext.old l a hl (k.ext.old l a (Nat.lt_of_lt_of_le hl g.ext.len) e), fun l a hl e => ?_⟩, fun a h => k.there a (g.there a h), fun a h1 h2 h3 => k.up a (g.up a h1 h2 h3) (g.there a h2) ?_⟩
  · rcases k.new a h with z | z
    · exact g.new a z
    · exact .inr (g.fresh z)
  · by_cases h2 : l < m'.length
    · exact g.ext.new l a hl (k.ext.old l a h2 e)
    · exact g.fresh (k.ext.new l a (by omega) e)
  · cases e : H a with
    | none => exact absurd e h2
    | some o => exact g.live h3 e
theorem Gr.of_ext (h : Ext H H') : Gr H U m H' U m := by
  refine ⟨fun a o _ e => h a o e, fun _ h => .inl h, .refl, fun a ha z => ?_, fun _ h _ _ => h⟩
  cases e : H a with
  | none => exact ha e
  | some o => rw [h a o e] at z; cases z
theorem Gr.gw (g : Gr H U m H' U' m') (hs : ∀ a, Lv m a → U a) : Gw H U m H' U' m' := ⟨fun a o hu e => g.keep a o (fun z => hu (hs a z)) e, g.new, g.ext.len, g.ext.old⟩
theorem Gw.trans (g : Gw H U m H' U' m') (k : Gw H' U' m' H2 U2 m2) : Gw H U m H2 U2 m2 := by
  refine ⟨fun a o hu e => k.keep a o (fun z => ?_) (g.keep a o hu e), fun a h => ?_, Nat.le_trans g.len k.len, fun l a hl e => g.old l a hl (k.old l a (Nat.lt_of_lt_of_le hl g.len) e)⟩
  · rcases g.new a z with q | q
    · exact hu q
    · rw [q] at e; cases e
  · rcases k.new a h with z | z
    · exact g.new a z
    · by_cases hu : U a
      · exact .inl hu
      · cases e : H a with
        | none => exact .inr rfl
        | some o => rw [g.keep a o hu e] at z; cases z
theorem Gw.refl : Gw H U m H U m := ⟨fun _ _ _ e => e, fun _ h => .inl h, Nat.le_refl _, fun _ _ _ e => e⟩
theorem Gw.rd (g : Gw H U m H' U' m') {a : Addr} {o : HO} (ha : ¬ U a) (h : Rd H a o) : Rd H' a o := by
  rcases h with h | ⟨u, h⟩
  · exact .inl (g.keep _ _ ha h)
  · exact .inr ⟨u, g.keep _ _ ha h⟩
theorem Gw.notU (g : Gw H U m H' U' m') {a : Addr} {o : HO} (ha : ¬ U a) (h : H a = some o) : ¬ U' a := fun z => by
  rcases g.new a z with z | z
  · exact ha z
  · rw [z] at h; cases h
theorem Rd.some {H : Hp} {a : Addr} {o : HO} (h : Rd H a o) : ∃ u, H a = Option.some u := by
  rcases h with h | ⟨u, h⟩ <;> exact ⟨_, h⟩
theorem MutU.nt (mu : MutU H U) {a : Addr} {xs : List V} (h : Rd H a (.tup xs)) : ¬ U a := fun z => by
  obtain ⟨u, e, q⟩ := mu a z
  rcases h with h | ⟨o, h⟩ <;> (rw [h] at e; cases e; exact q)
theorem Gw.sqT (g : Gw H U m H' U' m') (mu : MutU H U) {a : Addr} {xs : List V} (h : SqT T.K H a xs) : SqT T.K H' a xs := by
  rcases h with h | h
  · exact .inl (g.rd (mu.nt h) h)
  · exact .inr h
theorem Gw.sqB (g : Gw H U m H' U' m') (mu : MutU H U) {a : Addr} {xs : List V} (h : SqB T.K H a xs) : SqB T.K H' a xs := by
  rcases h with ⟨o, e, q⟩ | h
  · obtain ⟨ob, rfl, hd⟩ := q
    exact .inl ⟨_, g.keep _ _ (mu.nt (.inr ⟨ob, e⟩)) e, ob, rfl, hd⟩
  · exact .inr h
mutual
theorem Rep.gr (g : Gw H U m H' U' m') (nt : MutU H U) : ∀ {v : Val} {x : V}, Rep T H U m v x → Rep T H' U' m' v x
  | .non, _, h => by cases h; exact .non
  | .bl _, _, h => by cases h; exact .bl _
  | .int _, _, h => by cases h; exact .int _
  | .str _, _, h => by cases h; exact .str _
  | .tup _, _, h => by
    cases h with
    | tup h0 h1 h2 => exact .tup h0 (g.sqB nt h1) (Reps.gr g nt h2)
  | .lst _, _, h => by
    cases h with
    | lst h0 h1 h2 h3 => exact .lst h0 (g.keep _ _ h2 h1) (g.notU h2 h1) (Reps.gr g nt h3)
  | .dct _ _, _, h => by
    cases h with
    | dK h1 h2 h3 h4 => exact .dK (g.keep _ _ h2 h1) (g.notU h2 h1) h3 (Reps.gr g nt h4)
    | dT h1 h2 h3 h4 => exact .dT (g.keep _ _ h2 h1) (g.notU h2 h1) h3 (Reps.gr g nt h4)
  | .ins _ _, _, h => by
    cases h with
    | scr h0 h1 h4 =>
      refine .scr h0 ?_ (Reps.gr g nt h4)
      rcases h1 with ⟨h1, h2⟩ | h1
      · obtain ⟨u, hu⟩ := Rd.some h1
        exact .inl ⟨g.rd h2 h1, g.notU h2 hu⟩
      · exact .inr h1
    | pr h0 h1 h2 => exact .pr h0 (g.sqT nt h1) (Reps.gr g nt h2)
    | ins h0 h1 h2 h3 h4 => exact .ins h0 (g.keep _ _ h3 h1) h2 (g.notU h3 h1) (Reps.gr g nt h4)
  | .ref _, _, h => by
    cases h with
    | ref h1 h2 => exact .ref (Nat.lt_of_lt_of_le h1 g.len) fun a e => h2 a (g.old _ a h1 e)
theorem Reps.gr (g : Gw H U m H' U' m') (nt : MutU H U) : ∀ {vs : List Val} {xs : List V}, Reps T H U m vs xs → Reps T H' U' m' vs xs
  | [], _, h => by cases h; exact .nil
  | _ :: _, _, h => by
    cases h with
    | cons h1 h2 => exact .cons (Rep.gr g nt h1) (Reps.gr g nt h2)
end
theorem Reps.length : ∀ {vs : List Val} {xs : List V}, Reps T H U m vs xs → vs.length = xs.length
  | [], _, h => by cases h; rfl
  | _ :: _, _, h => by
    cases h with
    | cons h1 h2 => simp [Reps.length h2]
theorem Reps.get : ∀ {vs : List Val} {xs : List V} {i : Nat} {v : Val}, Reps T H U m vs xs → vs[i]? = some v → ∃ x, xs[i]? = some x ∧ Rep T H U m v x
  | [], _, _, _, _, e => by simp at e
  | _ :: _, _, 0, _, h, e => by
    cases h with
    | cons h1 h2 => simp at e; subst e; exact ⟨_, rfl, h1⟩
  | _ :: _, _, i + 1, _, h, e => by
    cases h with
    | cons h1 h2 =>
      obtain ⟨x, e1, r⟩ := Reps.get (i := i) h2 (by simpa using e)
      exact ⟨x, by simpa using e1, r⟩
theorem Reps.getV : ∀ {vs : List Val} {xs : List V} {i : Nat} {x : V}, Reps T H U m vs xs → xs[i]? = some x → ∃ v, vs[i]? = some v ∧ Rep T H U m v x
  | [], _, _, _, h, e => by cases h; simp at e
  | _ :: _, _, 0, _, h, e => by
    cases h with
    | cons h1 h2 => simp at e; subst e; exact ⟨_, rfl, h1⟩
  | _ :: _, _, i + 1, _, h, e => by
    cases h with
    | cons h1 h2 =>
      obtain ⟨x, e1, r⟩ := Reps.getV (i := i) h2 (by simpa using e)
      exact ⟨x, by simpa using e1, r⟩
theorem Reps.append : ∀ {vs ws : List Val} {xs ys : List V}, Reps T H U m vs xs → Reps T H U m ws ys → Reps T H U m (vs ++ ws) (xs ++ ys)
  | [], _, _, _, h, k => by cases h; exact k
  | _ :: _, _, _, _, h, k => by
    cases h with
    | cons h1 h2 => exact .cons h1 (Reps.append h2 k)
theorem Reps.take : ∀ {vs : List Val} {xs : List V} (n : Nat), Reps T H U m vs xs → Reps T H U m (vs.take n) (xs.take n)
  | _, _, 0, _ => by simp; exact .nil
  | [], _, n + 1, h => by cases h; exact .nil
  | _ :: _, _, n + 1, h => by
    cases h with
    | cons h1 h2 => exact .cons h1 (Reps.take n h2)
theorem Reps.drop : ∀ {vs : List Val} {xs : List V} (n : Nat), Reps T H U m vs xs → Reps T H U m (vs.drop n) (xs.drop n)
  | _, _, 0, h => h
  | [], _, n + 1, h => by cases h; exact .nil
  | _ :: _, _, n + 1, h => by
    cases h with
    | cons h1 h2 => exact Reps.drop n h2
theorem Reps.set {v : Val} {x : V} (r : Rep T H U m v x) : ∀ {vs : List Val} {xs : List V} (i : Nat), Reps T H U m vs xs → Reps T H U m (vs.set i v) (xs.set i x)
  | [], _, _, h => by cases h; exact .nil
  | _ :: _, _, 0, h => by
    cases h with
    | cons h1 h2 => exact .cons r h2
  | _ :: _, _, i + 1, h => by
    cases h with
    | cons h1 h2 => exact .cons h1 (Reps.set r i h2)
theorem Reps.reverse : ∀ {vs : List Val} {xs : List V}, Reps T H U m vs xs → Reps T H U m vs.reverse xs.reverse
  | [], _, h => by cases h; exact .nil
  | _ :: _, _, h => by
    cases h with
    | cons h1 h2 => simp only [List.reverse_cons]; exact Reps.append (Reps.reverse h2) (.cons h1 .nil)
theorem Reps.eraseIdx : ∀ {vs : List Val} {xs : List V} (i : Nat), Reps T H U m vs xs → Reps T H U m (vs.eraseIdx i) (xs.eraseIdx i)
  | [], _, _, h => by cases h; exact .nil
  | _ :: _, _, 0, h => by
    cases h with
    | cons h1 h2 => exact h2
  | _ :: _, _, i + 1, h => by
    cases h with
    | cons h1 h2 => exact .cons h1 (Reps.eraseIdx i h2)
end
end SW

namespace SW
open PySem PySem.Spec PyProof.Rows L2

/-! ### the interpreter's results -/
abbrev PH := List Val
abbrev Ev := List (Option Val)
inductive Res (α : Type) where
  | ok (a : α) (h : PH)
  | exc (e : Val) (h : PH)
  | stuck
abbrev SM (α : Type) := PH → Res α
def Res.bind {α β : Type} (r : Res α) (f : α → SM β) : Res β := match r with
  | .ok a h => f a h
  | .exc e h => .exc e h
  | .stuck => .stuck
/-- what raises within is told as stuck -/
def Res.noexc {α : Type} (r : Res α) : Res α := match r with
  | .ok a h => .ok a h
  | _ => .stuck
abbrev Ex := Ev → SM Val
def lift {α : Type} (o : Option α) : SM α := fun h => match o with
  | some a => .ok a h
  | none => .stuck

/-! ### the state -/
section
variable (T : Tab) (H : Hp) (U : Addr → Prop) (m : List (Option Addr))
/-- an object at a that may be written -/
def ObjAt (a : Addr) : Val → Prop
  | .lst vs => ∃ xs, H a = some (.lst xs) ∧ Reps T H U m vs xs ∧ vs.length ≤ sizeLine
  | .dct ks vs => (∃ kvs : List (Key × V), H a = some (.dK kvs) ∧ ks = kvs.map (fun p => kVal p.1) ∧ Reps T H U m vs (kvs.map (·.2))) ∨
      ∃ kvs : List (List Key × V), H a = some (.dT kvs) ∧ ks = Val.non :: kvs.map (fun p => Val.tup (p.1.map kVal)) ∧ Reps T H U m vs (kvs.map (·.2))
  | .ins c vs => ∃ dx xs, H a = some (.ins (T.cA c) dx ((T.cF c).zip xs)) ∧ xs.length ≤ (T.cF c).length ∧ Reps T H U m vs xs
  | _ => False
structure HR (h : PH) : Prop where
  len : m.length = h.length
  nd : ∀ (l k : Nat) (a : Addr), m[l]? = some (some a) → m[k]? = some (some a) → l = k
  sub : ∀ a, Lv m a → U a
  us : MutU H U
  obj : ∀ (l : Nat) (o : Val), h[l]? = some o → (m[l]? = some none ∧ o = .non) ∨ ∃ a, m[l]? = some (some a) ∧ ObjAt T H U m a o
structure ER (r : Ev) (σ : L2.St) : Prop where
  len : r.length = σ.length
  val : ∀ (i : Nat) (v : Val), r[i]? = some (some v) → ∃ x, σ[i]? = some (some x) ∧ Rep T H U m v x
/-- an exception: its class, its own dict -/
def ExR : Val → Value → Option Addr → Prop
  | .ins c [], cls, d => cls = .ref (T.cA c) ∧ d = none
  | .ins c [v], cls, d => cls = .ref (T.cA c) ∧ ∃ dd x f, d = some dd ∧ T.cF c = [f] ∧ H dd = some (.xd [(f, x)]) ∧ Rep T H U m v x
  | _, _, _ => False
end
section
variable {T : Tab} {H H' H2 : Hp} {U U' U2 : Addr → Prop} {m m' m2 : List (Option Addr)} {h h' : PH} {r : Ev} {σ : L2.St}
theorem ObjAt.some {a : Addr} {o : Val} (x : ObjAt T H U m a o) : ∃ u, H a = some u ∧ Mut (some u) := by
  cases o with
  | lst vs => obtain ⟨xs, e, _⟩ := x; exact ⟨_, e, True.intro⟩
  | dct ks vs =>
    rcases x with ⟨_, e, _⟩ | ⟨_, e, _⟩
    · exact ⟨_, e, True.intro⟩
    · exact ⟨_, e, True.intro⟩
  | ins c vs => obtain ⟨_, _, e, _⟩ := x; exact ⟨_, e, True.intro⟩
  | _ => exact x.elim
theorem HR.at {a : Addr} (x : HR T H U m h) (ha : Lv m a) : ∃ u, H a = some u ∧ Mut (some u) := by
  obtain ⟨i, e⟩ := ha
  have hl : i < h.length := by rw [← x.len]; exact (List.getElem?_eq_some_iff.mp e).1
  rcases x.obj i h[i] (List.getElem?_eq_getElem hl) with ⟨e1, _⟩ | ⟨b, e1, o⟩
  · rw [e] at e1; cases e1
  · rw [e] at e1
    cases e1
    exact o.some
theorem HR.ne (x : HR T H U m h) : ∀ b, Lv m b → H b ≠ none := fun b hb z => by
  obtain ⟨u, e, _⟩ := x.at hb
  rw [z] at e; cases e
theorem HR.rep (x : HR T H U m h) (g : Gr H U m H' U' m') {v : Val} {z : V} (q : Rep T H U m v z) : Rep T H' U' m' v z := Rep.gr (g.gw x.sub) x.us q
theorem HR.reps (x : HR T H U m h) (g : Gr H U m H' U' m') {v : List Val} {z : List V} (q : Reps T H U m v z) : Reps T H' U' m' v z := Reps.gr (g.gw x.sub) x.us q
theorem HR.env (x : HR T H U m h) (g : Gr H U m H' U' m') (e : ER T H U m r σ) : ER T H' U' m' r σ := ⟨e.len, fun i v q => by
  obtain ⟨z, e1, e2⟩ := e.val i v q
  exact ⟨z, e1, x.rep g e2⟩⟩
theorem HR.trans (x : HR T H U m h) (x' : HR T H' U' m' h') (g : Gr H U m H' U' m') (k : Gr H' U' m' H2 U2 m2) : Gr H U m H2 U2 m2 := g.trans k
theorem ObjAt.gw {a : Addr} {o : Val} (mu : MutU H U) (g : Gw H U m H' U' m') (e : H' a = H a) (q : ObjAt T H U m a o) : ObjAt T H' U' m' a o := by
  cases o with
  | lst vs => obtain ⟨xs, e1, e2, e3⟩ := q; exact ⟨xs, e.trans e1, Reps.gr g mu e2, e3⟩
  | dct ks vs =>
    rcases q with ⟨kvs, e1, e2, e3⟩ | ⟨kvs, e1, e2, e3⟩
    · exact .inl ⟨kvs, e.trans e1, e2, Reps.gr g mu e3⟩
    · exact .inr ⟨kvs, e.trans e1, e2, Reps.gr g mu e3⟩
  | ins c vs => obtain ⟨dx, xs, e1, e2, e3⟩ := q; exact ⟨dx, xs, e.trans e1, e2, Reps.gr g mu e3⟩
  | _ => exact q.elim
theorem ObjAt.gr {a : Addr} {o : Val} (x : HR T H U m h) (g : Gr H U m H' U' m') (e : H' a = H a) (q : ObjAt T H U m a o) : ObjAt T H' U' m' a o := q.gw x.us (g.gw x.sub) e
theorem HR.ext (x : HR T H U m h) (e : Ext H H') : HR T H' U m h := ⟨x.len, x.nd, x.sub, fun a ha => let ⟨u, e1, e2⟩ := x.us a ha; ⟨u, e a u e1, e2⟩, fun l o q => by
  rcases x.obj l o q with z | ⟨a, e1, e2⟩
  · exact .inl z
  · obtain ⟨u, h1, _⟩ := e2.some
    exact .inr ⟨a, e1, e2.gr x (Gr.of_ext e) ((e a u h1).trans h1.symm)⟩⟩
theorem HR.notin (x : HR T H U m h) {p : Addr} (hp : H p = none) : ¬ U p := fun z => by
  obtain ⟨u, e, _⟩ := x.us p z
  rw [hp] at e; cases e
theorem HR.notlv (x : HR T H U m h) {p : Addr} (hp : H p = none) : ¬ Lv m p := fun z => x.notin hp (x.sub p z)
def addU (U : Addr → Prop) (p : Addr) : Addr → Prop := fun a => U a ∨ a = p
theorem upd_there {p : Addr} {o : HO} : ∀ a, H a ≠ none → upd H p o a ≠ none := fun a ha => by
  by_cases e : a = p
  · subst e; rw [upd_same]; exact fun z => nomatch z
  · rw [upd_ne e]; exact ha
theorem lv_app {p a : Addr} (h : Lv (m ++ [some p]) a) : Lv m a ∨ a = p := by
  obtain ⟨l, e⟩ := h
  by_cases hl : l < m.length
  · rw [List.getElem?_append_left hl] at e; exact .inl ⟨l, e⟩
  · have : l = m.length := by
      have := (List.getElem?_eq_some_iff.mp e).1
      simp at this; omega
    subst this
    rw [List.getElem?_append_right (Nat.le_refl _)] at e
    simp at e; exact .inr e.symm
theorem Mg.push {p : Addr} (hp : H p = none) : Mg H m (m ++ [some p]) := ⟨by simp, fun l a hl e => by rw [List.getElem?_append_left hl] at e; exact e, fun l a hl e => by
  have : l = m.length := by
    have := (List.getElem?_eq_some_iff.mp e).1
    simp at this; omega
  subst this
  rw [List.getElem?_append_right (Nat.le_refl _)] at e
  simp at e; rw [← e]; exact hp⟩
/-- a new located object -/
theorem Gr.push {p : Addr} (o : HO) (hp : H p = none) : Gr H U m (upd H p o) (addU U p) (m ++ [some p]) :=
  ⟨fun a u _ e => by rw [upd_ne (ne_of_none e hp)]; exact e, fun a h => h.elim .inl fun e => .inr (by rw [e]; exact hp), .push hp, upd_there, fun _ h _ _ => .inl h⟩
/-- the state with one more located object, once its address is known to be writable -/
theorem HR.locate (x : HR T H U m h) {p : Addr} {v : Val} (hu : U p) (hm : ¬ Lv m p) (ho : ObjAt T H U m p v) : HR T H U (m ++ [some p]) (h ++ [v]) := by
  have gw : Gw H U m H U (m ++ [some p]) := ⟨fun _ _ _ e => e, fun _ z => .inl z, by simp, fun l a hl e => by rw [List.getElem?_append_left hl] at e; exact e⟩
  refine ⟨by simp [x.len], fun l k a e1 e2 => ?_, fun a ha => (lv_app ha).elim (x.sub a) fun e => e ▸ hu, x.us, fun l w q => ?_⟩
  · by_cases hl : l < m.length
    · rw [List.getElem?_append_left hl] at e1
      by_cases hk : k < m.length
      · rw [List.getElem?_append_left hk] at e2
        exact x.nd l k a e1 e2
      · rw [List.getElem?_append_right (by omega)] at e2
        have hk2 : k - m.length = 0 := by
          have := (List.getElem?_eq_some_iff.mp e2).1
          simp at this; omega
        rw [hk2] at e2; simp at e2
        exact absurd ⟨l, by rw [e2]; exact e1⟩ hm
    · by_cases hk : k < m.length
      · rw [List.getElem?_append_left hk] at e2
        rw [List.getElem?_append_right (by omega)] at e1
        have hl2 : l - m.length = 0 := by
          have := (List.getElem?_eq_some_iff.mp e1).1
          simp at this; omega
        rw [hl2] at e1; simp at e1
        exact absurd ⟨k, by rw [e1]; exact e2⟩ hm
      · have h1 := (List.getElem?_eq_some_iff.mp e1).1
        have h2 := (List.getElem?_eq_some_iff.mp e2).1
        simp at h1 h2; omega
  · by_cases hl : l < h.length
    · rw [List.getElem?_append_left hl] at q
      have hl' : l < m.length := by rw [x.len]; exact hl
      rcases x.obj l w q with ⟨e1, e2⟩ | ⟨a, e1, e2⟩
      · exact .inl ⟨by rw [List.getElem?_append_left hl']; exact e1, e2⟩
      · exact .inr ⟨a, by rw [List.getElem?_append_left hl']; exact e1, e2.gw x.us gw rfl⟩
    · have hl2 : l = h.length := by
        have := (List.getElem?_eq_some_iff.mp q).1
        simp at this; omega
      subst hl2
      rw [List.getElem?_append_right (Nat.le_refl _)] at q
      simp at q
      subst q
      exact .inr ⟨p, by rw [List.getElem?_append_right (by rw [x.len]; exact Nat.le_refl _), x.len]; simp, ho.gw x.us gw rfl⟩
/-- an address more that may be written, by nobody here -/
theorem growU {p : Addr} {o : HO} (hp : H p = none) : Gr H U m (upd H p o) (addU U p) m := ⟨fun a u _ e => by rw [upd_ne (ne_of_none e hp)]; exact e, fun a h => h.elim .inl fun e => .inr (by rw [e]; exact hp), .refl, upd_there, fun _ h _ _ => .inl h⟩
theorem HR.addU (x : HR T H U m h) {p : Addr} {o : HO} (hp : H p = none) (mu : Mut (some o)) : HR T (upd H p o) (addU U p) m h := by
  have hu := x.notin hp
  refine ⟨x.len, x.nd, fun a ha => .inl (x.sub a ha), fun a ha => ?_, fun l w q => ?_⟩
  · rcases ha with z | z
    · rw [upd_ne (fun e => hu (by rw [← e]; exact z))]; exact x.us a z
    · rw [z, upd_same]; exact ⟨_, rfl, mu⟩
  · rcases x.obj l w q with z | ⟨a, e1, e2⟩
    · exact .inl z
    · exact .inr ⟨a, e1, e2.gr x (growU hp) (upd_ne fun e => hu (by rw [← e]; exact x.sub a ⟨l, e1⟩))⟩
theorem HR.push (x : HR T H U m h) {p : Addr} {o : HO} {v : Val} (hp : H p = none) (mu : Mut (some o)) (ho : ObjAt T (upd H p o) (SW.addU U p) m p v) : HR T (upd H p o) (SW.addU U p) (m ++ [some p]) (h ++ [v]) :=
  (x.addU hp mu).locate (.inr rfl) (x.notlv hp) ho
/-- a located object is written -/
theorem Gr.write {a : Addr} {o : HO} (ha : Lv m a) : Gr H U m (upd H a o) U m :=
  ⟨fun b u hb e => by rw [upd_ne (fun z => hb (by rw [z]; exact ha))]; exact e, fun _ h => .inl h, .refl, upd_there, fun _ h _ _ => h⟩
theorem HR.write (x : HR T H U m h) {l : Nat} {a : Addr} {o : HO} {v : Val} (ha : m[l]? = some (some a)) (ho : ObjAt T (upd H a o) U m a v) : HR T (upd H a o) U m (h.set l v) := by
  have hm : Lv m a := ⟨l, ha⟩
  refine ⟨by simp [x.len], x.nd, x.sub, fun b hb => ?_, fun k w q => ?_⟩
  · by_cases e : b = a
    · subst e; exact ho.some
    · rw [upd_ne e]; exact x.us b hb
  · by_cases hk : l = k
    · subst hk
      rw [List.getElem?_set] at q
      by_cases hl : l < h.length
      · rw [if_pos rfl, if_pos hl] at q
        cases q
        exact .inr ⟨a, ha, ho⟩
      · rw [if_pos rfl, if_neg hl] at q; cases q
    · rw [List.getElem?_set_ne hk] at q
      rcases x.obj k w q with z | ⟨b, e1, e2⟩
      · exact .inl z
      · have hne : b ≠ a := fun e => by
          subst e
          exact hk (x.nd _ _ _ ha e1)
        exact .inr ⟨b, e1, e2.gr x (Gr.write hm) (upd_ne hne)⟩
theorem ER.set {i : Nat} {v : Val} {x : V} (e : ER T H U m r σ) (q : Rep T H U m v x) : ER T H U m (r.set i (some v)) (σ.set i (some x)) := by
  refine ⟨by simp [e.len], fun j w q' => ?_⟩
  by_cases hj : i = j
  · subst hj
    rw [List.getElem?_set] at q' ⊢
    by_cases hl : i < r.length
    · rw [if_pos rfl, if_pos hl] at q'
      cases q'
      rw [if_pos rfl, if_pos (by rw [← e.len]; exact hl)]
      exact ⟨x, rfl, q⟩
    · rw [if_pos rfl, if_neg hl] at q'
      cases q'
  · rw [List.getElem?_set_ne hj] at q' ⊢
    exact e.val j w q'
theorem ER.wipe (e : ER T H U m r σ) (i : Nat) : ER T H U m (r.set i none) (σ.set i none) := by
  refine ⟨by simp [e.len], fun j w q' => ?_⟩
  by_cases hj : i = j
  · subst hj
    rw [List.getElem?_set] at q'
    by_cases hl : i < r.length
    · rw [if_pos rfl, if_pos hl] at q'; cases q'
    · rw [if_pos rfl, if_neg hl] at q'; cases q'
  · rw [List.getElem?_set_ne hj] at q' ⊢
    exact e.val j w q'
end

/-! ### what is wanted behind a run -/
abbrev WC := Value → Option Addr → Hp → Prop
/-- the run's result r, from (H, U, m): Kq is wanted behind it, W of an exception -/
def Out {α : Type} (T : Tab) (H : Hp) (U : Addr → Prop) (m : List (Option Addr)) (W : WC) (r : Res α) (Kq : α → PH → Hp → (Addr → Prop) → List (Option Addr) → Prop) : Prop := match r with
  | .ok a h' => ∀ H' U' m', Gr H U m H' U' m' → HR T H' U' m' h' → Kq a h' H' U' m'
  | .exc e h' => ∀ H' U' m' cls d, Gr H U m H' U' m' → HR T H' U' m' h' → ExR T H' U' m' e cls d → W cls d H'
  | .stuck => False
section
variable {T : Tab} {H H' : Hp} {U U' : Addr → Prop} {m m' : List (Option Addr)} {W : WC} {α β : Type}
theorem Out.bind {h : PH} {r : Res α} {f : α → SM β} {Kq : β → PH → Hp → (Addr → Prop) → List (Option Addr) → Prop} (hr : HR T H U m h) (o : Out T H U m W (r.bind f) Kq) :
    Out T H U m W r (fun a h' H' U' m' => Out T H' U' m' W (f a h') Kq) := by
  cases r with
  | ok a h' =>
    intro H1 U1 m1 g hr1
    have o : Out T H U m W (f a h') Kq := o
    show Out T H1 U1 m1 W (f a h') Kq
    cases e : f a h' with
    | ok b h2 =>
      rw [e] at o
      exact fun H2 U2 m2 g2 hr2 => o H2 U2 m2 (hr.trans hr1 g g2) hr2
    | exc b h2 =>
      rw [e] at o
      exact fun H2 U2 m2 cls d g2 hr2 => o H2 U2 m2 cls d (hr.trans hr1 g g2) hr2
    | stuck =>
      rw [e] at o
      exact o
  | exc e h' => exact o
  | stuck => exact o
theorem Out.mono {r : Res α} {K1 K2 : α → PH → Hp → (Addr → Prop) → List (Option Addr) → Prop} (o : Out T H U m W r K1) (k : ∀ a h' H' U' m', Gr H U m H' U' m' → HR T H' U' m' h' → K1 a h' H' U' m' → K2 a h' H' U' m') : Out T H U m W r K2 := by
  cases r with
  | ok a h' => exact fun H' U' m' g hr => k a h' H' U' m' g hr (o H' U' m' g hr)
  | exc e h' => exact o
  | stuck => exact o
/-- the same run, from a heap with more in it -/
theorem Out.step {h : PH} {r : Res α} {Kq : α → PH → Hp → (Addr → Prop) → List (Option Addr) → Prop} (hr : HR T H U m h) {h1 : PH} (hr1 : HR T H' U' m' h1) (g : Gr H U m H' U' m') (o : Out T H U m W r Kq) : Out T H' U' m' W r Kq := by
  cases r with
  | ok a h' => exact fun H2 U2 m2 g2 hr2 => o H2 U2 m2 (hr.trans hr1 g g2) hr2
  | exc e h' => exact fun H2 U2 m2 cls d g2 hr2 => o H2 U2 m2 cls d (hr.trans hr1 g g2) hr2
  | stuck => exact o
theorem Out.noexc {r : Res α} {Kq : α → PH → Hp → (Addr → Prop) → List (Option Addr) → Prop} {W' : WC} (o : Out T H U m W r.noexc Kq) : Out T H U m W' r Kq := by
  cases r with
  | ok a h' => exact o
  | exc e h' => exact (show False from o).elim
  | stuck => exact o
end

/-! ### the contexts -/
/-- an exception that leaves a callee, wished for by W, is wished for by the context -/
def Tk (X : Cx) (W : WC) : Prop := ∀ (pins : List (Addr × Obj)) (σ : L2.St) (H : Hp) (s : Shared) (e : Value) (s' : Shared) (E : XK), (∀ cls d H', E cls d H' → W cls d H') → Inv X pins σ H s → L2.CX X.prog X.w X.stack H s E e s' → X.xe e s'
structure XOk (T : Tab) (X : Cx) : Prop where
  k : X.K = T.K
  calm : X.calm = true
  nd : X.N.Nodup
  un : X.A.units + 100 < cLine
  hd : X.A.handled = none
theorem Tk.of_takes {X : Cx} {W : WC} (t : Takes X fun c d _ H => W c d H) : Tk X W := fun _ σ H _ _ _ E hE I c =>
  t _ _ (XE.of_call (W := fun c d _ H => W c d H) I hE c)
theorem Tk.none (X : Cx) : Tk X fun _ _ _ => False := fun _ _ _ _ _ _ _ hE _ c => by
  obtain ⟨_, _, _, _, _, _, _, _, _, _, _, _, q⟩ := c
  exact (hE _ _ _ q).elim
theorem pe_imp {X : Cx} {e : Expr} {t t' : TE} (p : PE X e t) (h : ∀ σ H Q, t' σ H Q → t σ H Q) : PE X e t' := ⟨fun pins s σ H Q I q => p.run pins s σ H Q I (h σ H Q q)⟩
theorem pt_imp {X : Cx} {e : Expr} {t t' : TT} (p : PT X e t) (h : ∀ σ H Q, t' σ H Q → t σ H Q) : PT X e t' := ⟨fun pins s σ H Q I q => p.run pins s σ H Q I (h σ H Q q)⟩
theorem pw_imp {X : Cx} {e : Expr} {t t' : TT} (p : PW X e t) (h : ∀ σ H Q, t' σ H Q → t σ H Q) : PW X e t' := ⟨fun wh pins s σ H Q I q => p.run wh pins s σ H Q I (h σ H Q q)⟩
theorem pa_imp {X : Cx} {e : List Expr} {t t' : TA} (p : PA X e t) (h : ∀ σ H Q, t' σ H Q → t σ H Q) : PA X e t' := ⟨fun pos pins s σ H Q I q => p.run pos pins s σ H Q I (h σ H Q q)⟩
theorem ps_imp {X : Cx} {e : Stmt} {t t' : TS} (p : PS X e t) (h : ∀ D σ H, t' D σ H → t D σ H) : PS X e t' := ⟨fun pins s σ H D I q => p.run pins s σ H D I (h D σ H q)⟩
theorem pss_imp {X : Cx} {e : List Stmt} {t t' : TS} (p : PSs X e t) (h : ∀ D σ H, t' D σ H → t D σ H) : PSs X e t' := ⟨fun pins s σ H D I q => p.run pins s σ H D I (h D σ H q)⟩
theorem pg_imp {X : Cx} {e : Expr} {t t' : TG} (p : PG X e t) (h : ∀ v σ H Q, t' v σ H Q → t v σ H Q) : PG X e t' := ⟨fun pins s σ H v u Q I r q => p.run pins s σ H v u Q I r (h v σ H Q q)⟩
theorem pi_imp {X : Cx} {tg e : Expr} {t t' : TI} (p : PI X tg e t) (h : ∀ σ H R, t' σ H R → t σ H R) : PI X tg e t' := ⟨fun pins s σ H R I q => p.run pins s σ H R I (h σ H R q)⟩

/-! ### expressions -/
/-- the state here, the run's result, what is wanted -/
def tE (T : Tab) (W : WC) (me : Ex) : TE := fun σ H Q => ∃ U m r h, HR T H U m h ∧ ER T H U m r σ ∧ Out T H U m W (me r h) fun v _ H' U' m' => ∀ x, Rep T H' U' m' v x → Q x H'
def CE (T : Tab) (X : Cx) (e : Expr) (me : Ex) : Prop := XOk T X → ∀ W, Tk X W → PE X e (tE T W me)
/-- the next step: from a run that begins with me -/
theorem tE_then {T : Tab} {W : WC} {me : Ex} {β : Type} {f : Val → SM β} {Kq : β → PH → Hp → (Addr → Prop) → List (Option Addr) → Prop} {σ : L2.St} {H : Hp} {U : Addr → Prop} {m : List (Option Addr)} {r : Ev} {h : PH} (hr : HR T H U m h) (er : ER T H U m r σ) (o : Out T H U m W ((me r h).bind f) Kq)
    {Q : VK} (k : ∀ x H1 U1 m1 h1 v, Gr H U m H1 U1 m1 → HR T H1 U1 m1 h1 → ER T H1 U1 m1 r σ → Rep T H1 U1 m1 v x → Out T H1 U1 m1 W (f v h1) Kq → Q x H1) : tE T W me σ H Q :=
  ⟨U, m, r, h, hr, er, (o.bind hr).mono fun v h1 H1 U1 m1 g hr1 o1 x rx => k x H1 U1 m1 h1 v g hr1 (hr.env g er) rx o1⟩
/-- a pure run: nothing is written, the heap may grow -/
theorem Out.pure {T : Tab} {H H' : Hp} {U : Addr → Prop} {m : List (Option Addr)} {W : WC} {o : Option Val} {h : PH} {v : Val} {Kq : Val → PH → Hp → (Addr → Prop) → List (Option Addr) → Prop} (hr : HR T H U m h) (q : Out T H U m W (lift o h) Kq) (e : Ext H H') (ev : o = some v) : Kq v h H' U m := by
  subst ev
  exact q H' U m (Gr.of_ext e) (hr.ext e)
theorem Out.lift_some {α : Type} {T : Tab} {H : Hp} {U : Addr → Prop} {m : List (Option Addr)} {W : WC} {o : Option α} {h : PH} {Kq : α → PH → Hp → (Addr → Prop) → List (Option Addr) → Prop} (q : Out T H U m W (lift o h) Kq) : ∃ v, o = some v := by
  cases o with
  | none => exact (show False from q).elim
  | some v => exact ⟨v, rfl⟩

def eVar (i : Nat) : Ex := fun r h => lift (r.getD i none) h
def eC (v : Val) : Ex := fun _ h => .ok v h
def eBin (g : PH → Val → Val → Option Val) (a b : Ex) : Ex := fun r h => (a r h).bind fun x h1 => (b r h1).bind fun y h2 => lift (g h2 x y) h2
def eUn (g : PH → Val → Option Val) (a : Ex) : Ex := fun r h => (a r h).bind fun x h1 => lift (g h1 x) h1
section
variable {T : Tab} {X : Cx} {pos : Pos} {a b c e : Expr} {ma mb mc me : Ex}
theorem ce_var (i : Nat) {x : Str} (hN : X.N[i]? = some x := by rfl) (hv : Vis X.env.scope x := by first | exact Or.inl rfl | exact Or.inr (Or.inl rfl) | exact Or.inr (Or.inr rfl)) (hd : (x == ("__debug__" : Str)) = false := by decide)
    (hcd : (x == ("__classdict__" : Str)) = false := by decide) : CE T X (.Name x pos) (eVar i) := fun _ W tk => pe_imp (pe_var hN hv hd hcd) fun σ H Q ⟨U, m, r, h, hr, er, o⟩ => by
  obtain ⟨v, e⟩ := Out.lift_some o
  have e1 : r[i]? = some (some v) := by
    rw [List.getD_eq_getElem?_getD] at e
    cases q : r[i]? with
    | none => rw [q] at e; cases e
    | some z => rw [q] at e; exact congrArg some e
  obtain ⟨x, e2, rx⟩ := er.val i v e1
  exact ⟨x, e2, Out.pure hr o (fun _ _ h => h) e x rx⟩
theorem ce_const {x : V} {v : Val} (p : PE X e (tC x)) (hv : ∀ H U m, Rep T H U m v x) : CE T X e (eC v) := fun _ W tk => pe_imp p fun σ H Q ⟨U, m, r, h, hr, er, o⟩ =>
  o H U m .refl hr x (hv H U m)
theorem ce_int {i : Int} {j} : CE T X (.Constant (.int i) j pos) (eC (.int i)) := ce_const pe_int fun _ _ _ => .int i
theorem ce_bl {b : Bool} {j} : CE T X (.Constant (.bool b) j pos) (eC (.bl b)) := ce_const pe_bl fun _ _ _ => .bl b
theorem ce_non {j} : CE T X (.Constant .none j pos) (eC .non) := ce_const pe_non fun _ _ _ => .non
theorem ce_str {x : Str} {j} : CE T X (.Constant (.str x) j pos) (eC (.str x)) := ce_const pe_str fun _ _ _ => .str x
/-- a rule r for an operation on values is met by g -/
def Op2 (T : Tab) (r : R2) (g : PH → Val → Val → Option Val) : Prop := ∀ {H : Hp} {U : Addr → Prop} {m : List (Option Addr)} {h : PH} {x y : Val} {xv yv : V} {v : Val} {Q : VK}, HR T H U m h → Rep T H U m x xv → Rep T H U m y yv → g h x y = some v → (∀ z H', Ext H H' → Rep T H' U m v z → Q z H') → r xv yv H Q
def Op1 (T : Tab) (r : V → Hp → VK → Prop) (g : PH → Val → Option Val) : Prop := ∀ {H : Hp} {U : Addr → Prop} {m : List (Option Addr)} {h : PH} {x : Val} {xv : V} {v : Val} {Q : VK}, HR T H U m h → Rep T H U m x xv → g h x = some v → (∀ z H', Ext H H' → Rep T H' U m v z → Q z H') → r xv H Q
theorem op2_run {r : R2} {g : PH → Val → Val → Option Val} (hg : Op2 T r g) {W : WC} {σ : L2.St} {H : Hp} {Q : VK} (q : tE T W (eBin g ma mb) σ H Q) : tOp r (tE T W ma) (tE T W mb) σ H Q := by
  obtain ⟨U, m, ρ, h, hr, er, o⟩ := q
  refine tE_then hr er o fun x H1 U1 m1 h1 v g1 hr1 er1 rx o1 => ?_
  refine tE_then hr1 er1 o1 fun y H2 U2 m2 h2 w g2 hr2 er2 ry o2 => ?_
  obtain ⟨z, ez⟩ := Out.lift_some o2
  exact hg hr2 (hr1.rep g2 rx) ry ez fun z' H' ex rz => Out.pure hr2 o2 ex ez z' rz
theorem ce_op {op : Operator} {r : R2} {g : PH → Val → Val → Option Val} (ho : OpR X (binaryOp op) r) (hg : Op2 T r g) (ha : CE T X a ma) (hb : CE T X b mb) : CE T X (.BinOp a op b pos) (eBin g ma mb) := fun ok W tk =>
  pe_imp (pe_op ho (ha ok W tk) (hb ok W tk)) fun σ H Q q => op2_run hg q
theorem ce_cmp {op : CmpOp} {r : R2} {g : PH → Val → Val → Option Val} (ho : OpR X (compareOp op) r) (hg : Op2 T r g) (ha : CE T X a ma) (hb : CE T X b mb) (hm : behindInMarks op b = false) : CE T X (.Compare a [op] [b] pos) (eBin g ma mb) := fun ok W tk =>
  pe_imp (pe_cmpR ho (ha ok W tk) (hb ok W tk) hm) fun σ H Q q => op2_run hg q
theorem op1_run {r : V → Hp → VK → Prop} {g : PH → Val → Option Val} (hg : Op1 T r g) {W : WC} {σ : L2.St} {H : Hp} {Q : VK} (q : tE T W (eUn g ma) σ H Q) : tE T W ma σ H (fun x H1 => r x H1 Q) := by
  obtain ⟨U, m, ρ, h, hr, er, o⟩ := q
  refine tE_then hr er o fun x H1 U1 m1 h1 v g1 hr1 er1 rx o1 => ?_
  obtain ⟨z, ez⟩ := Out.lift_some o1
  exact hg hr1 rx ez fun z' H' ex rz => Out.pure hr1 o1 ex ez z' rz
theorem ce_un {op : UnaryOp} {r : V → Hp → VK → Prop} {g : PH → Val → Option Val} (ho : UnR X (unaryOp op) r) (hg : Op1 T r g) (ha : CE T X a ma) : CE T X (.UnaryOp op a pos) (eUn g ma) := fun ok W tk =>
  pe_imp (pe_un ho (ha ok W tk)) fun σ H Q q => op1_run hg q
end
end SW

namespace SW
open PySem PySem.Spec PyProof.Rows L2

/-! ### data: values without dicts, instances, located objects -/
mutual
def toD : Val → PyData
  | .non => .none
  | .bl b => .bool b
  | .int i => .int i
  | .str x => .str x
  | .tup xs => .tuple (toDs xs)
  | .lst xs => .list (toDs xs)
  | .dct _ _ => .none
  | .ins _ _ => .none
  | .ref _ => .none
def toDs : List Val → List PyData
  | [] => []
  | x :: xs => toD x :: toDs xs
end
mutual
/-- data, at most so deep -/
def dat : Val → Nat → Bool
  | .non, _ => true
  | .bl _, _ => true
  | .int _, _ => true
  | .str _, _ => true
  | .tup xs, n => match n with | 0 => false | n + 1 => dats xs n
  | .lst xs, n => match n with | 0 => false | n + 1 => dats xs n
  | .dct _ _, _ => false
  | .ins _ _, _ => false
  | .ref _, _ => false
def dats : List Val → Nat → Bool
  | [], _ => true
  | x :: xs, n => dat x n && dats xs n
end
mutual
/-- Python's == of data -/
def veq : Val → Val → Bool
  | .non, y => match y with | .non => true | _ => false
  | .bl a, y => match y with | .bl b => a == b | .int j => (if a then 1 else 0) == j | _ => false
  | .int i, y => match y with | .int j => i == j | .bl b => i == (if b then 1 else 0) | _ => false
  | .str x, y => match y with | .str z => x == z | _ => false
  | .tup xs, y => match y with | .tup ys => veqs xs ys | _ => false
  | .lst xs, y => match y with | .lst ys => veqs xs ys | _ => false
  | .dct _ _, _ => false
  | .ins _ _, _ => false
  | .ref _, _ => false
def veqs : List Val → List Val → Bool
  | [], ys => match ys with | [] => true | _ :: _ => false
  | x :: xs, ys => match ys with | [] => false | y :: ys => veq x y && veqs xs ys
end
mutual
/-- the two can be ordered -/
def valike : Val → Val → Bool
  | .non, y => match y with | .non => true | _ => false
  | .bl _, y => match y with | .bl _ => true | _ => false
  | .int _, y => match y with | .int _ => true | _ => false
  | .str _, y => match y with | .str _ => true | _ => false
  | .tup xs, y => match y with | .tup ys => valikes xs ys | _ => false
  | .lst xs, y => match y with | .lst ys => valikes xs ys | _ => false
  | .dct _ _, _ => false
  | .ins _ _, _ => false
  | .ref _, _ => false
def valikes : List Val → List Val → Bool
  | [], _ => true
  | x :: xs, ys => match ys with | [] => true | y :: ys => valike x y && valikes xs ys
end
mutual
/-- Python's < of data that are alike -/
def vlt : Val → Val → Bool
  | .bl a, y => match y with | .bl b => !a && b | _ => false
  | .int i, y => match y with | .int j => decide (i < j) | _ => false
  | .str x, y => match y with | .str z => decide (x.cps.toList < z.cps.toList) | _ => false
  | .tup xs, y => match y with | .tup ys => vlts xs ys | _ => false
  | .lst xs, y => match y with | .lst ys => vlts xs ys | _ => false
  | .non, _ => false
  | .dct _ _, _ => false
  | .ins _ _, _ => false
  | .ref _, _ => false
def vlts : List Val → List Val → Bool
  | [], ys => match ys with | [] => false | _ :: _ => true
  | x :: xs, ys => match ys with | [] => false | y :: ys => if veq x y then vlts xs ys else vlt x y
end
/-- a located list, read -/
def view (h : PH) : Val → Val
  | .ref l => match h[l]? with | some (.lst xs) => .lst xs | some (.dct ks vs) => .dct ks vs | _ => .ref l
  | v => v

mutual
theorem dat_plain : ∀ (v : Val) (n : Nat), dat v n = true → (toD v).plain = true ∧ (toD v).depth ≤ n
  | .non, n, _ => ⟨by simp only [toD, PyData.plain], by simp only [toD, PyData.depth]; omega⟩
  | .bl _, n, _ => ⟨by simp only [toD, PyData.plain], by simp only [toD, PyData.depth]; omega⟩
  | .int _, n, _ => ⟨by simp only [toD, PyData.plain], by simp only [toD, PyData.depth]; omega⟩
  | .str _, n, _ => ⟨by simp only [toD, PyData.plain], by simp only [toD, PyData.depth]; omega⟩
  | .tup xs, 0, h => by simp [dat] at h
  | .tup xs, n + 1, h => by
    obtain ⟨h1, h2⟩ := dats_plain xs n (by simpa only [dat] using h)
    exact ⟨by simpa only [toD, PyData.plain] using h1, by simp only [toD, PyData.depth]; omega⟩
  | .lst xs, 0, h => by simp [dat] at h
  | .lst xs, n + 1, h => by
    obtain ⟨h1, h2⟩ := dats_plain xs n (by simpa only [dat] using h)
    exact ⟨by simpa only [toD, PyData.plain] using h1, by simp only [toD, PyData.depth]; omega⟩
  | .dct _ _, _, h => by simp [dat] at h
  | .ins _ _, _, h => by simp [dat] at h
  | .ref _, _, h => by simp [dat] at h
theorem dats_plain : ∀ (v : List Val) (n : Nat), dats v n = true → PyData.plainAll (toDs v) = true ∧ PyData.depthAll (toDs v) ≤ n
  | [], n, _ => ⟨by simp only [toDs, PyData.plainAll], by simp only [toDs, PyData.depthAll]; omega⟩
  | x :: xs, n, h => by
    simp only [dats, Bool.and_eq_true] at h
    obtain ⟨a1, a2⟩ := dat_plain x n h.1
    obtain ⟨b1, b2⟩ := dats_plain xs n h.2
    exact ⟨by simp only [toDs, PyData.plainAll, a1, b1, Bool.and_self], by simp only [toDs, PyData.depthAll]; omega⟩
end
mutual
theorem veq_ok : ∀ (x y : Val) (n m : Nat), dat x n = true → dat y m = true → PyData.eqv (toD x) (toD y) = veq x y
  | .non, y, n, m, hx, hy => by cases y <;> simp_all [toD, dat, veq, PyData.eqv]
  | .bl _, y, n, m, hx, hy => by cases y <;> simp_all [toD, dat, veq, PyData.eqv]
  | .int _, y, n, m, hx, hy => by cases y <;> simp_all [toD, dat, veq, PyData.eqv]
  | .str _, y, n, m, hx, hy => by cases y <;> simp_all [toD, dat, veq, PyData.eqv]
  | .tup xs, y, 0, m, hx, hy => by simp [dat] at hx
  | .tup xs, y, n + 1, m, hx, hy => by
    cases y with
    | tup ys =>
      cases m with
      | zero => simp [dat] at hy
      | succ m =>
        simp only [toD, veq, PyData.eqv]
        exact veqs_ok xs ys n m (by simpa only [dat] using hx) (by simpa only [dat] using hy)
    | _ => simp_all [toD, dat, veq, PyData.eqv]
  | .lst xs, y, 0, m, hx, hy => by simp [dat] at hx
  | .lst xs, y, n + 1, m, hx, hy => by
    cases y with
    | lst ys =>
      cases m with
      | zero => simp [dat] at hy
      | succ m =>
        simp only [toD, veq, PyData.eqv]
        exact veqs_ok xs ys n m (by simpa only [dat] using hx) (by simpa only [dat] using hy)
    | _ => simp_all [toD, dat, veq, PyData.eqv]
  | .dct _ _, _, _, _, h, _ => by simp [dat] at h
  | .ins _ _, _, _, _, h, _ => by simp [dat] at h
  | .ref _, _, _, _, h, _ => by simp [dat] at h
theorem veqs_ok : ∀ (x y : List Val) (n m : Nat), dats x n = true → dats y m = true → PyData.eqvAll (toDs x) (toDs y) = veqs x y
  | [], y, n, m, hx, hy => by cases y <;> simp [toDs, veqs, PyData.eqvAll]
  | x :: xs, [], n, m, hx, hy => by simp [toDs, veqs, PyData.eqvAll]
  | x :: xs, y :: ys, n, m, hx, hy => by
    simp only [dats, Bool.and_eq_true] at hx hy
    simp only [toDs, veqs, PyData.eqvAll]
    rw [veq_ok x y n m hx.1 hy.1, veqs_ok xs ys n m hx.2 hy.2]
end
mutual
theorem valike_ok : ∀ (x y : Val) (n m : Nat), dat x n = true → dat y m = true → W.alike (toD x) (toD y) = valike x y
  | .non, y, n, m, hx, hy => by cases y <;> simp_all [toD, dat, valike, W.alike]
  | .bl _, y, n, m, hx, hy => by cases y <;> simp_all [toD, dat, valike, W.alike]
  | .int _, y, n, m, hx, hy => by cases y <;> simp_all [toD, dat, valike, W.alike]
  | .str _, y, n, m, hx, hy => by cases y <;> simp_all [toD, dat, valike, W.alike]
  | .tup xs, y, 0, m, hx, hy => by simp [dat] at hx
  | .tup xs, y, n + 1, m, hx, hy => by
    cases y with
    | tup ys =>
      cases m with
      | zero => simp [dat] at hy
      | succ m =>
        simp only [toD, valike, W.alike]
        exact valikes_ok xs ys n m (by simpa only [dat] using hx) (by simpa only [dat] using hy)
    | _ => simp_all [toD, dat, valike, W.alike]
  | .lst xs, y, 0, m, hx, hy => by simp [dat] at hx
  | .lst xs, y, n + 1, m, hx, hy => by
    cases y with
    | lst ys =>
      cases m with
      | zero => simp [dat] at hy
      | succ m =>
        simp only [toD, valike, W.alike]
        exact valikes_ok xs ys n m (by simpa only [dat] using hx) (by simpa only [dat] using hy)
    | _ => simp_all [toD, dat, valike, W.alike]
  | .dct _ _, _, _, _, h, _ => by simp [dat] at h
  | .ins _ _, _, _, _, h, _ => by simp [dat] at h
  | .ref _, _, _, _, h, _ => by simp [dat] at h
theorem valikes_ok : ∀ (x y : List Val) (n m : Nat), dats x n = true → dats y m = true → W.alikeAll (toDs x) (toDs y) = valikes x y
  | [], y, n, m, hx, hy => by cases y <;> simp [toDs, valikes, W.alikeAll]
  | x :: xs, [], n, m, hx, hy => by simp [toDs, valikes, W.alikeAll]
  | x :: xs, y :: ys, n, m, hx, hy => by
    simp only [dats, Bool.and_eq_true] at hx hy
    simp only [toDs, valikes, W.alikeAll]
    rw [valike_ok x y n m hx.1 hy.1, valikes_ok xs ys n m hx.2 hy.2]
end
mutual
theorem vlt_ok : ∀ (x y : Val) (n m : Nat), dat x n = true → dat y m = true → valike x y = true → x ≠ .non → W.dataLt (toD x) (toD y) = vlt x y
  | .non, y, n, m, hx, hy, ha, hn => absurd rfl hn
  | .bl a, y, n, m, hx, hy, ha, hn => by
    cases y <;> simp_all [toD, dat, vlt, valike]
    rename_i b
    rw [W.dataLt_bool]
    cases a <;> cases b <;> rfl
  | .int _, y, n, m, hx, hy, ha, hn => by
    cases y <;> simp_all [toD, dat, vlt, valike]
    rw [W.dataLt_int]
  | .str _, y, n, m, hx, hy, ha, hn => by
    cases y with
    | str z => simp only [toD, vlt]; exact W.dataLt_str _ _
    | _ => simp_all [valike]
  | .tup xs, y, 0, m, hx, hy, ha, hn => by simp [dat] at hx
  | .tup xs, y, n + 1, m, hx, hy, ha, hn => by
    cases y with
    | tup ys =>
      cases m with
      | zero => simp [dat] at hy
      | succ m =>
        simp only [toD, vlt]
        rw [W.dataLt_tuple]
        exact vlts_ok xs ys n m (by simpa only [dat] using hx) (by simpa only [dat] using hy) (by simpa only [valike] using ha)
    | _ => simp_all [valike]
  | .lst xs, y, 0, m, hx, hy, ha, hn => by simp [dat] at hx
  | .lst xs, y, n + 1, m, hx, hy, ha, hn => by
    cases y with
    | lst ys =>
      cases m with
      | zero => simp [dat] at hy
      | succ m =>
        simp only [toD, vlt]
        rw [W.dataLt_list]
        exact vlts_ok xs ys n m (by simpa only [dat] using hx) (by simpa only [dat] using hy) (by simpa only [valike] using ha)
    | _ => simp_all [valike]
  | .dct _ _, _, _, _, h, _, _, _ => by simp [dat] at h
  | .ins _ _, _, _, _, h, _, _, _ => by simp [dat] at h
  | .ref _, _, _, _, h, _, _, _ => by simp [dat] at h
theorem vlts_ok : ∀ (x y : List Val) (n m : Nat), dats x n = true → dats y m = true → valikes x y = true → PyProof.Rows.lexLt itemOrd (W.keyToksAll (toDs x)) (W.keyToksAll (toDs y)) = vlts x y
  | [], y, n, m, hx, hy, ha => by
    cases y with
    | nil => simp only [toDs, vlts, W.keyToksAll]; rfl
    | cons y ys => simp only [toDs, vlts, W.keyToksAll]; rfl
  | x :: xs, [], n, m, hx, hy, ha => by simp only [toDs, vlts, W.keyToksAll]; rfl
  | x :: xs, y :: ys, n, m, hx, hy, ha => by
    simp only [dats, Bool.and_eq_true] at hx hy
    simp only [valikes, Bool.and_eq_true] at ha
    simp only [toDs, vlts]
    have hal : W.alike (toD x) (toD y) = true := by rw [valike_ok x y n m hx.1 hy.1]; exact ha.1
    have he := veq_ok x y n m hx.1 hy.1
    cases e : veq x y with
    | true =>
      rw [e] at he
      rw [if_pos rfl, W.dataLt_all_yes hal he]
      exact vlts_ok xs ys n m hx.2 hy.2 ha.2
    | false =>
      rw [e] at he
      rw [if_neg Bool.false_ne_true, W.dataLt_all_no hal he]
      refine vlt_ok x y n m hx.1 hy.1 ha.1 fun z => ?_
      subst z
      cases y <;> simp_all [valike, veq]
end
end SW

namespace SW
open PySem PySem.Spec PyProof.Rows L2

/-! ### new tuples, of which it is known that they have no dict -/
abbrev tupOb (its : List Value) : Obj := { cls := .type "tuple", data := .seq its.toArray }
/-- what a rule gives for a new tuple -/
abbrev NewT (xs : List V) (H : Hp) (Q : VK) : Prop := ∀ (p : Addr) (o : HO), H p = none → BtO xs o → Q (.ref p) (upd H p o)
section
variable {X : Cx} {pins : List (Addr × Obj)} {σ : L2.St} {H : Hp} {s : Shared} {Q : VK} {xs ys : List V} {its : List Value}
theorem laidB {tk : Nat} (I : Inv X pins σ H s) (r : Vals xs its) (z : xs.length ≤ sizeLine) (q : NewT xs H Q) : EP X pins σ Q (.ref s.heap.objs.size) { s with heap := s.heap.push (tupOb its), toks := tk } := by
  have e : (s.heap.push (tupOb its)).get? s.heap.objs.size = some (tupOb its) := Heap.get?_push_size _ rfl
  have n := I.hok.fresh (Nat.le_refl s.heap.objs.size)
  refine ⟨.ref s.heap.objs.size, upd H s.heap.objs.size (.frz (tupOb its) (.tup xs)), I.laid (fun _ _ => Heap.get?_push_of_some _) (Nat.le_refl _) ?_, rfl, q _ _ n ⟨_, rfl, rfl⟩⟩
  exact ⟨e, z, its, r, tupOb its, e, rfl, _, rfl⟩
/-- (a, b, ..) -/
def tTupB (t : TA) : TE := fun σ H Q => t σ H fun xs H1 => xs.length ≤ sizeLine ∧ NewT xs H1 Q
theorem pe_tupB {es : List Expr} {t : TA} {k : Nat} {pos : Pos} (h : PA X es t) : PE X (.Tuple es k pos) (tTupB t) := ⟨fun pins s σ H Q I hq =>
  wpAny_Tuple_spliced (thn (h.run pos pins s σ H _ I hq) fun us s1 ⟨xs, H1, I1, r, z, q⟩ => ⟨r.length ▸ z, laidB (tk := s1.toks) I1 r z q⟩)⟩
theorem Vals.emp {us : List Value} (r : Vals xs us) : us = [] ↔ xs = [] := by cases r <;> simp
/-- t + u -/
def rCatB (K : PySem.W.Frag) : R2 := fun x y H Q => ∃ a b xs ys, (x, y) = (V.ref a, V.ref b) ∧ SqT K H a xs ∧ SqT K H b ys ∧ xs.length + ys.length ≤ sizeLine ∧
  (xs = [] → Q y H) ∧ (xs ≠ [] → ys = [] → Q x H) ∧ (xs ≠ [] → ys ≠ [] → NewT (xs ++ ys) H Q)
theorem op_catB : OpR X (binaryOp .Add) (rCatB X.K) := fun pins s σ H x y v u Q I rx ry ⟨a, b, xs, ys, e, ha, hb, hz, q0, q1, q2⟩ => by
  cases e; cases rx; cases ry
  obtain ⟨us, r1, p1, _⟩ := I.tuple ha
  obtain ⟨ws, r2, p2, _⟩ := I.tuple hb
  by_cases hx : xs = []
  · have e0 : us = [] := (Vals.emp r1).mpr hx
    subst e0
    exact cat_tup0 p1 p2 ⟨.ref b, H, I, rfl, q0 hx⟩
  · refine HT.cat_tup p1 p2 (fun z => hx ((Vals.emp r1).mp z)) (fun z => ⟨.ref a, H, I, rfl, q1 hx ((Vals.emp r2).mp z)⟩) (fun z => ?_) (by rw [← r1.length, ← r2.length]; exact hz)
    exact laidB (tk := s.toks) I (r1.append r2) (by rw [List.length_append]; exact hz) (q2 hx fun w => z ((Vals.emp r2).mpr w))
/-- t[lo:hi] -/
def rSlB (K : PySem.W.Frag) : V → Option Int → Option Int → Hp → VK → Prop := fun x lo hi H Q => ∃ a xs, x = V.ref a ∧ SqT K H a xs ∧
  (HT.sIx xs.length 0 lo = 0 ∧ HT.sIx xs.length xs.length hi = xs.length → Q x H) ∧ (¬ (HT.sIx xs.length 0 lo = 0 ∧ HT.sIx xs.length xs.length hi = xs.length) → NewT (cutV xs lo hi) H Q)
theorem sl_tupB : SlR X (rSlB X.K) := fun pins s σ H x v vl vu lo hi sl Q I rx hs pl pu ⟨a, xs, e, hx, q1, q2⟩ => by
  cases e; cases rx
  obtain ⟨us, r, ht, hz⟩ := I.tuple hx
  have hl : us.toArray.size = xs.length := by rw [List.size_toArray, ← r.length]
  refine ⟨"tuple", _, PyProof.Rows.slot_tuple_getitem.lookup, ht.typeIs, ?_⟩
  by_cases hw : HT.sIx xs.length 0 lo = 0 ∧ HT.sIx xs.length xs.length hi = xs.length
  · exact getItem_tuple_whole ht hs pl pu (hl ▸ hw) ⟨.ref a, H, I, rfl, q1 hw⟩
  · refine HT.getItem_tuple_cut ht hs pl pu (hl ▸ hw) ?_ (hl ▸ hz)
    rw [hl]
    exact laidB (tk := s.toks) I ((r.drop _).take _) (Nat.le_trans (cutV_length xs lo hi) hz) (q2 hw)
/-- tuple(list), tuple(t) -/
theorem call_tupleB : CallR X (.type "tuple") (fun vs H Q => ∃ p ys, vs = [V.ref p] ∧ ((SqL X.K H p ys ∧ NewT ys H Q) ∨ (SqT X.K H p ys ∧ Q (.ref p) H))) := fun pins s σ H vs us Q I r ⟨p, ys, e, h⟩ => by
  cases e
  obtain ⟨u, rfl, rx⟩ := vals1 r
  cases rx
  rcases h with ⟨hq, q⟩ | ⟨hq, q⟩
  · obtain ⟨ws, r', pl, hz⟩ := I.list hq
    have hlen := r'.length
    refine call_tuple_list pl.isList (fun h' kp => ?_) (by simp only [List.size_toArray] <;> omega)
    exact laidB (s := { s with heap := h' }) (tk := s.toks) (I.kept (t' := s.toks) kp) r' hz q
  · obtain ⟨ws, r', pl, hz⟩ := I.tuple hq
    exact call_tuple_same pl ⟨.ref p, H, I, rfl, q⟩
/-- tuple(range(..)) -/
def tTupRgB (te : L2.St → Hp → (Int → Int → Hp → Prop) → Prop) : TE := fun σ H Q => te σ H fun a b H1 => RgOk a b ∧ NewT (rgV a b) H1 Q
theorem pe_tupRgB {e : Expr} {te : L2.St → Hp → (Int → Int → Hp → Prop) → Prop} {p pos : Pos} (hc : X.calm = true) (hg : Gl X "tuple") (hm : X.mg "tuple" = none) (he : PRg X e te) (na : starEach [e] X.env = (false, eval e X.env) :: starEach [] X.env := by rfl) : PE X (.Call (.Name "tuple" p) [e] [] pos) (tTupRgB te) := ⟨fun pins s σ H Q I h => by
  refine Call_ (ld_blt I hg hm boot_tuple (PyProof.Rows.callWith_type1 (args_cons (thn (he pins s σ H _ I h) fun x s1 ⟨r, a, b, t, u, v, H1, ex, hr, I1, ok, q⟩ => args_nil ?_) na) na))
  cases ex
  obtain ⟨b1, b2, b3, b4, b5⟩ := ok
  refine call_tuple_range (n := (b - a).toNat) (I1.ok.hd hc) hr (small_one b1 b2 b3 b4) (rangeSize_nat a b) b5 fun h' tk acc hk hi => ?_
  have new := laidB (s := { s1 with heap := h', toks := tk }) (tk := tk) (I1.kept (t' := tk) hk) (vals_rg hi) (by rw [rgV_length, sizeLine_eq]; omega) q
  exact new⟩
/-- t * k -/
def rRepB (K : PySem.W.Frag) : R2 := fun x y H Q => ∃ l k xs, (x, y) = (V.ref l, V.int k) ∧ SqT K H l xs ∧ xs ≠ [] ∧ 2 ≤ k ∧ k ≤ 1000 ∧ xs.length ≤ 1000 ∧ NewT (List.replicate k.toNat xs).flatten H Q
theorem op_repB : OpR X (binaryOp .Mult) (rRepB X.K) := fun pins s σ H x y v u Q I rx ry ⟨l, k, xs, e, hT, hne, h1, h2, hz, q⟩ => by
  cases e; cases rx
  obtain ⟨t, rfl⟩ := ry
  obtain ⟨us, r, ⟨⟨cls, dd, data, sl⟩, ho, hc, n, hd⟩, hs⟩ := I.tuple hT
  simp only at hc hd
  subst hc hd
  have hle := r.length
  have hn : us ≠ [] := fun z => hne ((Vals.emp r).mp z)
  have size0 : us.toArray.size = xs.length := by rw [List.size_toArray, hle]
  have hi : us.toArray.isEmpty = false := by cases us <;> first | exact absurd rfl hn | rfl
  have prod : k.toNat * xs.length ≤ 1000000 := Nat.le_trans (Nat.mul_le_mul (show k.toNat ≤ 1000 by omega) hz) (by decide)
  have hm : ((us.toArray.size : Nat) : Int) * k ≤ 1000000 := by
    have e1 : ((k.toNat * xs.length : Nat) : Int) = ((xs.length : Nat) : Int) * k := by rw [Int.natCast_mul, Int.toNat_of_nonneg (by omega), Int.mul_comm]
    rw [size0, ← e1]; omega
  have flen : (List.replicate k.toNat us).flatten.length ≤ sizeLine := by rw [PyProof.Rows.lm_len_rep_flat, ← hle, sizeLine_eq]; omega
  have few : Builtin.Tuple.tupleTooMany (((us.toArray.size : Nat) : Int) * k) = false := by unfold Builtin.Tuple.tupleTooMany; rw [sizeLine_eq]; exact decide_eq_false (by omega)
  have work := tuple_mulW l us.toArray n dd sl k t (by rw [decide_eq_false (by omega), decide_eq_false (by omega)]; rfl) (by rw [hi, Bool.false_or]; exact beq_eq_false_iff_ne.mpr (by omega)) (by rw [hi, Bool.or_false]; exact decide_eq_false (by omega)) (by omega) few (by rw [size_rep, List.size_toArray]; exact flen)
  refine wpAny_binaryOp_repeat_ref (T := "tuple") (U := "int") (by decide) ⟨_, ho, rfl⟩ (fun s' => typeIs_int s' k t) noFill_tuple_mul F.fills_int_mul F.slot_int_rmul repeat_tuple F.slot_int_index.lookup ?_
  refine call_meets F.slot_int_rmul (typeIs_int s k t) F.entry_int_rmul (F.args_int_rmul_2 _ _) (int_rmul_tuple k t l us.toArray n dd sl) ⟨ho, rfl, ⟨_, ho, rfl⟩, ?_⟩
  refine call_meets F.slot_tuple_mul ⟨_, ho, rfl⟩ F.entry_tuple_mul (F.args_tuple_mul_2 _ _) work ⟨ho, ?_⟩
  rw [size_rep]
  exact laidB (tk := s.toks) I (r.rep k.toNat) (by rw [PyProof.Rows.lm_len_rep_flat, sizeLine_eq]; omega) q
end
/-! ### t.index(x): the first place of a flat thing -/
def rIndexB (K : PySem.W.Frag) : V → List V → Hp → VK → Prop := fun x vs H Q => ∃ (a : Addr) (ys : List V) (y : V) (j : Nat) (z : V), x = V.ref a ∧ vs = [y] ∧ SqT K H a ys ∧ flatV y = true ∧ ys.all flatV = true ∧ ys[j]? = some z ∧ eqV z y = true ∧
  (∀ (m : Nat) (w : V), m < j → ys[m]? = some w → eqV w y = false) ∧ Q (.int (j : Nat)) H
theorem mt_indexB {X : Cx} : MtR X "tuple.index" (rIndexB X.K) := fun pins s σ H x vs v us Q I rx rs ⟨a, ys, y, j, z, ex, ev, hs, fy, fys, hz, hzj, hno, q⟩ => by
  cases ex; cases ev; cases rx
  obtain ⟨u, rfl, ry⟩ := vals1 rs
  obtain ⟨its, r, ⟨⟨cls, dd, data, sl⟩, ho, hc, n, hd⟩, hlen⟩ := I.tuple hs
  simp only at hc hd
  subst hc hd
  have hl := r.length
  obtain ⟨w, hw, rw'⟩ := r.get hz
  obtain ⟨hj, hje⟩ := List.getElem?_eq_some_iff.mp hw
  refine call_meets PySem.F.slot_tuple_index ⟨_, ho, rfl⟩ PySem.F.entry_tuple_index (PySem.F.args_tuple_index_2 _ _) (TI.tuple_indexAt a its.toArray n dd sl u (eqU y) j (by simpa using hj) ?_ fun m hm hmj => ?_)
    ⟨ho, fun w hw => mem_eqAt ry fy r fys w (by simpa using hw), ⟨.int (j : Nat), H, I.tok _, ⟨_, rfl⟩, q⟩⟩
  · have e1 : its.toArray[j]'(by simpa using hj) = w := by simpa using hje
    rw [e1, eqU_of rw' (flat_at fys hz)]; exact hzj
  · have hml : m < its.length := by simpa using hm
    have hy' : ys[m]? = some (ys[m]'(by omega)) := List.getElem?_eq_getElem _
    obtain ⟨u2, hu2, ru2⟩ := r.get hy'
    have e2 : its.toArray[m] = u2 := by simpa using (List.getElem?_eq_some_iff.mp hu2).2
    rw [e2, eqU_of ru2 (flat_at fys hy')]
    exact hno m _ hmj hy'
/-- whose tuple is one without a dict -/
def tyB (K : PySem.W.Frag) (x : V) (H : Hp) : Prop := ∃ a xs, x = .ref a ∧ SqB K H a xs
theorem tyB_is {X : Cx} {pins : List (Addr × Obj)} {σ : L2.St} {H : Hp} {s : Shared} {x : V} {v : Value} (I : Inv X pins σ H s) (r : RelV x v) (ty : tyB X.K x H) : s.TypeIs v "tuple" ∧ ∀ a, v = .ref a → ∃ ob, s.heap.get? a = some ob ∧ ob.dict = none := by
  obtain ⟨a, xs, rfl, hb⟩ := ty
  cases r
  obtain ⟨_, _, p, _⟩ := I.tuple hb.t
  refine ⟨p.typeIs, fun b e => ?_⟩
  cases e
  rcases hb with ⟨o, e, ob, rfl, hd⟩ | ⟨o, _, _, hk, _, hd, _⟩
  · exact ⟨ob, (I.hok a _ e).1, hd⟩
  · have ty : tyV X.K "tuple" (.ref a) H := .inr (.inl ⟨rfl, o, hk, by assumption, hd⟩)
    exact (tyV_is I (show RelV (.ref a) (.ref a) from rfl) ty).2 a rfl
def tBMB (K : PySem.W.Frag) (r : V → List V → Hp → VK → Prop) (to : TE) (t : TA) : TE := fun σ H Q => to σ H fun x H1 => tyB K x H1 ∧ t σ H1 fun xs H2 => r x xs H2 Q
theorem pe_bmB {X : Cx} {o e : Expr} {es : List Expr} {to : TE} {t : TA} {name : Str} {apos cpos : Pos} {id : String} {r : V → List V → Hp → VK → Prop} (pa : PlainAttrs "tuple") (slot : Slot "tuple" name id) (hty : typeOf (.builtin id) = pure (.type "method_descriptor")) (hm : MtR X id r) (ho : PE X o to) (ha : PA X (e :: es) t)
    (hbase : attributeBase o name X.env (eval o X.env) = eval o X.env := by rfl)
    (hfew : ((backTo cpos (starEach (e :: es) X.env)).all (fun x => !x.1) && (backToKw cpos (keywordEach [] X.env)).all (fun x => x.1.isSome)
      && decide ((e :: es).length + ([] : List Keyword).length + (if ([] : List Keyword).isEmpty then 0 else 1) < 30)) = true := by rfl)
    (hline : (apos.endLine == cpos.line) = true := by rfl) (hs : starEach (e :: es) X.env = (false, eval e X.env) :: starEach es X.env := by rfl) (hplain : (backTo cpos (starEach es X.env)).any (·.1) = false := by rfl) :
    PE X (.Call (.Attribute o name apos) (e :: es) [] cpos) (tBMB X.K r to t) := ⟨fun pins s σ H Q I h => by
  refine wpAny_Call_method_late hbase hfew hline rfl (thn (ho.run pins s σ H _ I h) fun v s1 ⟨x, H1, I1, r1, ty, q1⟩ => ?_)
  obtain ⟨h1, h2⟩ := tyB_is I1 r1 ty
  refine ⟨"tuple", id, pa, slot, hty, h1, h2, ?_⟩
  have hA := ha.run cpos pins s1 σ H1 _ I1 q1
  rw [hs] at hA ⊢
  refine Calls.callWith_builtin (by show (false || (backTo cpos (starEach es X.env)).any (·.1)) = false; rw [hplain]; rfl) (Calls.evalArgs_plain ?_)
  exact thn hA fun us s2 ⟨vs, H2, I2, r2, q2⟩ => hm pins s2 σ H2 x vs v us Q I2 r1 r2 q2⟩
end SW

namespace SW
open PySem PySem.Spec PyProof.Rows L2

/-! ### data of the interpreter on the heap -/
section
variable {T : Tab} {H : Hp} {U : Addr → Prop} {m : List (Option Addr)}
mutual
theorem Rep.dp : ∀ (v : Val) (n : Nat) (x : V), dat v n = true → Rep T H U m v x → Dp T.K H x (toD v)
  | .non, n, x, _, r => by cases r; simp only [toD]; exact .non
  | .bl _, n, x, _, r => by cases r; simp only [toD]; exact .bl _
  | .int _, n, x, _, r => by cases r; simp only [toD]; exact .int _
  | .str _, n, x, _, r => by cases r; simp only [toD]; exact .str _
  | .tup xs, 0, x, d, r => by simp [dat] at d
  | .tup xs, n + 1, x, d, r => by
    cases r with
    | tup h0 h1 h2 => simp only [toD]; exact .tup h1.t (Reps.dp xs n _ (by simpa only [dat] using d) h2)
  | .lst xs, 0, x, d, r => by simp [dat] at d
  | .lst xs, n + 1, x, d, r => by
    cases r with
    | lst h0 h1 h2 h3 => simp only [toD]; exact .lst (.inl (.inl h1)) (Reps.dp xs n _ (by simpa only [dat] using d) h3)
  | .dct _ _, _, _, d, _ => by simp [dat] at d
  | .ins _ _, _, _, d, _ => by simp [dat] at d
  | .ref _, _, _, d, _ => by simp [dat] at d
theorem Reps.dp : ∀ (v : List Val) (n : Nat) (x : List V), dats v n = true → Reps T H U m v x → DpAll T.K H x (toDs v)
  | [], n, x, _, r => by cases r; simp only [toDs]; exact .nil
  | v :: vs, n, x, d, r => by
    cases r with
    | cons h1 h2 =>
      simp only [dats, Bool.and_eq_true] at d
      simp only [toDs]
      exact .cons (Rep.dp v n _ d.1 h1) (Reps.dp vs n _ d.2 h2)
end
theorem view_dp {h : PH} {v : Val} {x : V} {n : Nat} (hr : HR T H U m h) (r : Rep T H U m v x) (d : dat (view h v) n = true) : Dp T.K H x (toD (view h v)) := by
  cases v with
  | ref l =>
    cases r with
    | ref hl e =>
      cases q : h[l]? with
      | none => simp [view, q, dat] at d
      | some o =>
        rcases hr.obj l o q with ⟨_, e0⟩ | ⟨a, e1, ob⟩
        · subst e0; simp [view, q, dat] at d
        obtain rfl := e a e1
        cases o with
        | lst xs =>
          obtain ⟨ys, e2, rs, _⟩ := ob
          simp only [view, q] at d ⊢
          cases n with
          | zero => simp [dat] at d
          | succ n => simp only [toD]; exact .lst (.inl (.inl e2)) (Reps.dp xs n _ (by simpa only [dat] using d) rs)
        | _ => simp [view, q, dat] at d
  | _ => exact Rep.dp _ n _ d r
/-- a list or tuple, as it is read -/
theorem view_lst {h : PH} {v : Val} {x : V} {vs : List Val} (hr : HR T H U m h) (r : Rep T H U m v x) (d : view h v = .lst vs) : ∃ a xs, x = .ref a ∧ H a = some (.lst xs) ∧ Reps T H U m vs xs ∧ vs.length ≤ sizeLine := by
  cases v with
  | ref l =>
    cases r with
    | ref hl e =>
      cases q : h[l]? with
      | none => simp [view, q] at d
      | some o =>
        rcases hr.obj l o q with ⟨_, e0⟩ | ⟨a, e1, ob⟩
        · subst e0; simp [view, q, dat] at d
        obtain rfl := e a e1
        cases o with
        | lst xs =>
          obtain ⟨ys, e2, rs, hz⟩ := ob
          simp only [view, q] at d
          cases d
          exact ⟨_, ys, rfl, e2, rs, hz⟩
        | _ => simp [view, q] at d
  | lst xs =>
    simp only [view] at d
    cases d
    cases r with
    | lst h0 h1 h2 h3 => exact ⟨_, _, rfl, h1, h3, h0⟩
  | _ => simp [view] at d
theorem view_tup {h : PH} {v : Val} {x : V} {vs : List Val} (r : Rep T H U m v x) (d : view h v = .tup vs) : ∃ a xs, x = .ref a ∧ SqB T.K H a xs ∧ Reps T H U m vs xs ∧ vs.length ≤ sizeLine := by
  cases v with
  | ref l => cases q : h[l]? with
    | none => simp [view, q] at d
    | some o => cases o <;> simp [view, q] at d
  | tup xs =>
    simp only [view] at d
    cases d
    cases r with
    | tup h0 h1 h2 => exact ⟨_, _, rfl, h1, h2, h0⟩
  | _ => simp [view] at d
end

/-! ### operations on values -/
section
variable (T : Tab) (X : Cx)
abbrev EPG (pins : List (Addr × Obj)) (σ : L2.St) (H : Hp) (U : Addr → Prop) (m : List (Option Addr)) (z : Val) : Value → Shared → Prop := EP X pins σ (fun zv H' => Ext H H' ∧ Rep T H' U m z zv)
def OpS (f : Value → Value → Sem Value) (g : PH → Val → Val → Option Val) : Prop :=
  ∀ {pins : List (Addr × Obj)} {s : Shared} {σ : L2.St} {H : Hp} {U : Addr → Prop} {m : List (Option Addr)} {h : PH} {x y : Val} {xv yv : V} {v u : Value} {z : Val},
    Inv X pins σ H s → HR T H U m h → Rep T H U m x xv → Rep T H U m y yv → RelV xv v → RelV yv u → g h x y = some z → wpAny (model X.prog X.w) X.A (f v u) (EPG T X pins σ H U m z) X.xe s
def UnS (f : Value → Sem Value) (g : PH → Val → Option Val) : Prop :=
  ∀ {pins : List (Addr × Obj)} {s : Shared} {σ : L2.St} {H : Hp} {U : Addr → Prop} {m : List (Option Addr)} {h : PH} {x : Val} {xv : V} {v : Value} {z : Val},
    Inv X pins σ H s → HR T H U m h → Rep T H U m x xv → RelV xv v → g h x = some z → wpAny (model X.prog X.w) X.A (f v) (EPG T X pins σ H U m z) X.xe s
def CallS (f : Value) (g : PH → List Val → Option Val) : Prop :=
  ∀ {pins : List (Addr × Obj)} {s : Shared} {σ : L2.St} {H : Hp} {U : Addr → Prop} {m : List (Option Addr)} {h : PH} {x : List Val} {xv : List V} {v : List Value} {z : Val},
    Inv X pins σ H s → HR T H U m h → Reps T H U m x xv → Vals xv v → g h x = some z → wpAny (model X.prog X.w) X.A (call f v) (EPG T X pins σ H U m z) X.xe s
/-- the readings by such -/
def rS (g : PH → Val → Val → Option Val) : R2 := fun xv yv H Q => ∃ U m h x y z, HR T H U m h ∧ Rep T H U m x xv ∧ Rep T H U m y yv ∧ g h x y = some z ∧ ∀ zv H', Ext H H' → Rep T H' U m z zv → Q zv H'
def rU1 (g : PH → Val → Option Val) : V → Hp → VK → Prop := fun xv H Q => ∃ U m h x z, HR T H U m h ∧ Rep T H U m x xv ∧ g h x = some z ∧ ∀ zv H', Ext H H' → Rep T H' U m z zv → Q zv H'
def rC (g : PH → List Val → Option Val) : List V → Hp → VK → Prop := fun xv H Q => ∃ U m h x z, HR T H U m h ∧ Reps T H U m x xv ∧ g h x = some z ∧ ∀ zv H', Ext H H' → Rep T H' U m z zv → Q zv H'
variable {T X}
theorem OpS.r {f : Value → Value → Sem Value} {g : PH → Val → Val → Option Val} (o : OpS T X f g) : OpR X f (rS T g) := fun pins s σ H xv yv v u Q I rx ry ⟨U, m, h, x, y, z, hr, r1, r2, e, k⟩ =>
  thn (o I hr r1 r2 rx ry e) fun w s' ⟨zv, H', I', rv, ex, rz⟩ => ⟨zv, H', I', rv, k zv H' ex rz⟩
theorem OpS.op {g : PH → Val → Val → Option Val} : Op2 T (rS T g) g := fun hr r1 r2 e k => ⟨_, _, _, _, _, _, hr, r1, r2, e, k⟩
theorem UnS.r {f : Value → Sem Value} {g : PH → Val → Option Val} (o : UnS T X f g) : UnR X f (rU1 T g) := fun pins s σ H xv v Q I rx ⟨U, m, h, x, z, hr, r1, e, k⟩ =>
  thn (o I hr r1 rx e) fun w s' ⟨zv, H', I', rv, ex, rz⟩ => ⟨zv, H', I', rv, k zv H' ex rz⟩
theorem UnS.op {g : PH → Val → Option Val} : Op1 T (rU1 T g) g := fun hr r1 e k => ⟨_, _, _, _, _, hr, r1, e, k⟩
theorem CallS.r {f : Value} {g : PH → List Val → Option Val} (o : CallS T X f g) : CallR X f (rC T g) := fun pins s σ H xv v Q I rx ⟨U, m, h, x, z, hr, r1, e, k⟩ =>
  thn (o I hr r1 rx e) fun w s' ⟨zv, H', I', rv, ex, rz⟩ => ⟨zv, H', I', rv, k zv H' ex rz⟩
/-- from a rule of the hand layer -/
theorem OpS.of {f : Value → Value → Sem Value} {r : R2} {g : PH → Val → Val → Option Val} (o : OpR X f r) (k : ∀ {H : Hp} {U : Addr → Prop} {m : List (Option Addr)} {h : PH} {x y : Val} {xv yv : V} {z : Val} {Q : VK}, HR T H U m h → Rep T H U m x xv → Rep T H U m y yv → g h x y = some z → (∀ zv H', Ext H H' → Rep T H' U m z zv → Q zv H') → r xv yv H Q) : OpS T X f g :=
  fun I hr r1 r2 rx ry e => o _ _ _ _ _ _ _ _ _ I rx ry (k hr r1 r2 e fun _ _ ex rz => ⟨ex, rz⟩)
theorem UnS.of {f : Value → Sem Value} {r : V → Hp → VK → Prop} {g : PH → Val → Option Val} (o : UnR X f r) (k : ∀ {H : Hp} {U : Addr → Prop} {m : List (Option Addr)} {h : PH} {x : Val} {xv : V} {z : Val} {Q : VK}, HR T H U m h → Rep T H U m x xv → g h x = some z → (∀ zv H', Ext H H' → Rep T H' U m z zv → Q zv H') → r xv H Q) : UnS T X f g :=
  fun I hr r1 rx e => o _ _ _ _ _ _ _ I rx (k hr r1 e fun _ _ ex rz => ⟨ex, rz⟩)
theorem CallS.of {f : Value} {r : List V → Hp → VK → Prop} {g : PH → List Val → Option Val} (o : CallR X f r) (k : ∀ {H : Hp} {U : Addr → Prop} {m : List (Option Addr)} {h : PH} {x : List Val} {xv : List V} {z : Val} {Q : VK}, HR T H U m h → Reps T H U m x xv → g h x = some z → (∀ zv H', Ext H H' → Rep T H' U m z zv → Q zv H') → r xv H Q) : CallS T X f g :=
  fun I hr r1 rx e => o _ _ _ _ _ _ _ I rx (k hr r1 e fun _ _ ex rz => ⟨ex, rz⟩)
end

/-- a new object: the heap is more -/
theorem ext_upd {H : Hp} {p : Addr} {o : HO} (h : H p = none) : Ext H (upd H p o) := Ext.upd h
theorem HR.reps_ext {T : Tab} {H H' : Hp} {U : Addr → Prop} {m : List (Option Addr)} {h : PH} (hr : HR T H U m h) (e : Ext H H') {vs : List Val} {xs : List V} (r : Reps T H U m vs xs) : Reps T H' U m vs xs := hr.reps (Gr.of_ext e) r
theorem HR.rep_ext {T : Tab} {H H' : Hp} {U : Addr → Prop} {m : List (Option Addr)} {h : PH} (hr : HR T H U m h) (e : Ext H H') {v : Val} {x : V} (r : Rep T H U m v x) : Rep T H' U m v x := hr.rep (Gr.of_ext e) r
theorem rep_newtup {T : Tab} {H : Hp} {U : Addr → Prop} {m : List (Option Addr)} {h : PH} (hr : HR T H U m h) {p : Addr} {o : HO} (hp : H p = none) {vs : List Val} {xs : List V} (b : BtO xs o) (r : Reps T H U m vs xs) (hz : vs.length ≤ sizeLine) : Rep T (upd H p o) U m (.tup vs) (.ref p) :=
  .tup hz (.inl ⟨o, upd_same, b⟩) (hr.reps_ext (ext_upd hp) r)
theorem rep_newlst {T : Tab} {H : Hp} {U : Addr → Prop} {m : List (Option Addr)} {h : PH} (hr : HR T H U m h) {p : Addr} (hp : H p = none) {vs : List Val} {xs : List V} (r : Reps T H U m vs xs) (hz : vs.length ≤ sizeLine) : Rep T (upd H p (.lst xs)) U m (.lst vs) (.ref p) :=
  .lst hz upd_same (hr.notin hp) (hr.reps_ext (ext_upd hp) r)

/-- the most items that we let a list or a text have -/
abbrev big : Nat := 1000000
theorem big_line {n : Nat} (h : n ≤ big) : n ≤ sizeLine := by rw [sizeLine_eq]; have : (1000000 : Nat) ≤ 16777216 := by decide
                                                              exact Nat.le_trans h this

/-! ### arithmetic -/
def gAdd (h : PH) (x y : Val) : Option Val := match view h x, view h y with
  | .int i, .int j => some (.int (i + j))
  | .str a, .str b => if a.length + b.length ≤ big then some (.str (a ++ b)) else none
  | .tup a, .tup b => if a.length + b.length ≤ big then some (.tup (a ++ b)) else none
  | .lst a, .lst b => if a.length + b.length ≤ big then some (.lst (a ++ b)) else none
  | _, _ => none
def gSub (_ : PH) (x y : Val) : Option Val := match x, y with
  | .int i, .int j => some (.int (i - j))
  | _, _ => none
/-- within the bound of a factor -/
def fac (i : Int) : Bool := decide (-18446744073709551616 < i) && decide (i < 18446744073709551616)
def gMul (h : PH) (x y : Val) : Option Val := match view h x, y with
  | .int i, .int j => if fac i || fac j then some (.int (i * j)) else none
  | .tup a, .int k => if !a.isEmpty && decide (2 ≤ k) && decide (k ≤ 1000) && decide (a.length ≤ 1000) then some (.tup (List.replicate k.toNat a).flatten) else if decide (k = 1) || a.isEmpty then none else none
  | .lst a, .int k => if decide (-1000000 ≤ k) && decide (k ≤ 1000000) && decide (a.length * k.toNat ≤ big) then some (.lst (List.replicate k.toNat a).flatten) else none
  | _, _ => none
def gDiv (_ : PH) (x y : Val) : Option Val := match x, y with
  | .int i, .int j => if decide (0 < j) && decide (j < 1073741824) then some (.int (i / j)) else none
  | _, _ => none
def gMod (_ : PH) (x y : Val) : Option Val := match x, y with
  | .int i, .int j => if decide (0 < j) then some (.int (i % j)) else none
  | _, _ => none
def gPow (_ : PH) (x y : Val) : Option Val := match x, y with
  | .int i, .int j => if decide (0 ≤ j) && decide (j ≤ 1000) && fac i then some (.int (i ^ j.toNat)) else none
  | _, _ => none
def gNeg (_ : PH) (x : Val) : Option Val := match x with
  | .int i => some (.int (-i))
  | _ => none
theorem fac_ok {i : Int} (h : fac i = true) : -(2 ^ 64) < i ∧ i < 2 ^ 64 := by
  unfold fac at h
  simp only [Bool.and_eq_true, decide_eq_true_eq] at h
  exact h
section
variable {T : Tab} {X : Cx}
theorem reps_ne {H : Hp} {U : Addr → Prop} {m : List (Option Addr)} {vs : List Val} {xs : List V} (r : Reps T H U m vs xs) (h : vs ≠ []) : xs ≠ [] := fun e => by
  subst e
  have := r.length
  cases vs with
  | nil => exact h rfl
  | cons v vs => simp at this
theorem flat_len {α : Type} (xs : List α) : ∀ k : Nat, (List.replicate k xs).flatten.length = xs.length * k
  | 0 => by simp
  | k + 1 => by rw [List.replicate_succ, List.flatten_cons, List.length_append, flat_len xs k, Nat.mul_succ, Nat.add_comm]
theorem Reps.rep_flat {H : Hp} {U : Addr → Prop} {m : List (Option Addr)} {vs : List Val} {xs : List V} (r : Reps T H U m vs xs) : ∀ k : Nat, Reps T H U m (List.replicate k vs).flatten (List.replicate k xs).flatten
  | 0 => .nil
  | k + 1 => by
    rw [List.replicate_succ, List.replicate_succ, List.flatten_cons, List.flatten_cons]
    exact r.append (Reps.rep_flat r k)
/-- what is read is the value itself, but for located lists -/
theorem view_eq {h : PH} {x z : Val} (e : view h x = z) (hz : ∀ ys, z ≠ .lst ys) (hd : ∀ ks vs, z ≠ .dct ks vs := by intro _ _ q; exact nomatch q) : x = z := by
  cases x with
  | ref l =>
    cases q : h[l]? with
    | none => simp only [view, q] at e; exact e
    | some o =>
      cases o with
      | lst ys => simp only [view, q] at e; exact absurd e.symm (hz ys)
      | dct ks vs => simp only [view, q] at e; exact absurd e.symm (hd ks vs)
      | _ => simp only [view, q] at e; exact e
  | _ => exact e
theorem add_S (kT : X.K = T.K) : OpS T X (binaryOp .Add) gAdd := by
  intro pins s σ H U m h x y xv yv v u z I hr r1 r2 rx ry e
  unfold gAdd at e
  split at e
  · rename_i i j e1 e2
    cases e
    obtain rfl := view_eq e1 (fun _ z => nomatch z)
    obtain rfl := view_eq e2 (fun _ z => nomatch z)
    cases r1; cases r2
    exact (op_add : OpR X _ _) pins s σ H _ _ v u _ I rx ry ⟨_, _, rfl, rfl, Ext.rfl', .int _⟩
  · rename_i a b e1 e2
    split at e
    · rename_i hz
      cases e
      obtain rfl := view_eq e1 (fun _ z => nomatch z)
      obtain rfl := view_eq e2 (fun _ z => nomatch z)
      cases r1; cases r2
      exact (op_add_str : OpR X _ _) pins s σ H _ _ v u _ I rx ry ⟨_, _, rfl, rfl, big_line hz, Ext.rfl', .str _⟩
    · cases e
  · rename_i a b e1 e2
    split at e
    · rename_i hz
      cases e
      obtain ⟨a1, xs, rfl, s1, q1, z1⟩ := view_tup r1 e1
      obtain ⟨a2, ys, rfl, s2, q2, z2⟩ := view_tup r2 e2
      have l1 := q1.length
      have l2 := q2.length
      refine (op_catB : OpR X _ _) pins s σ H _ _ v u _ I rx ry ⟨a1, a2, xs, ys, rfl, by rw [kT]; exact s1.t, by rw [kT]; exact s2.t, big_line (by rw [← l1, ← l2]; exact hz), fun e => ?_, fun _ e => ?_, fun _ _ p o hp b => ?_⟩
      · subst e
        cases q1
        exact ⟨Ext.rfl', .tup z2 s2 q2⟩
      · subst e
        cases q2
        rw [List.append_nil]
        exact ⟨Ext.rfl', .tup z1 s1 q1⟩
      · exact ⟨ext_upd hp, rep_newtup hr hp b (q1.append q2) (by rw [List.length_append]; exact big_line hz)⟩
    · cases e
  · rename_i a b e1 e2
    split at e
    · rename_i hz
      cases e
      obtain ⟨a1, xs, rfl, s1, q1, z1⟩ := view_lst hr r1 e1
      obtain ⟨a2, ys, rfl, s2, q2, z2⟩ := view_lst hr r2 e2
      have l1 := q1.length
      have l2 := q2.length
      exact (op_cat : OpR X _ _) pins s σ H _ _ v u _ I rx ry ⟨a1, a2, xs, ys, rfl, rfl, s1, s2, big_line (by rw [← l1, ← l2]; exact hz), fun p hp => ⟨ext_upd hp, rep_newlst hr hp (q1.append q2) (by rw [List.length_append]; exact big_line hz)⟩⟩
    · cases e
  · cases e
theorem sub_S : OpS T X (binaryOp .Sub) gSub := by
  intro pins s σ H U m h x y xv yv v u z I hr r1 r2 rx ry e
  unfold gSub at e
  split at e
  · cases e
    cases r1; cases r2
    exact (op_sub : OpR X _ _) pins s σ H _ _ v u _ I rx ry ⟨_, _, rfl, rfl, Ext.rfl', .int _⟩
  · cases e
theorem mul_S (kT : X.K = T.K) : OpS T X (binaryOp .Mult) gMul := by
  intro pins s σ H U m h x y xv yv v u z I hr r1 r2 rx ry e
  unfold gMul at e
  split at e
  · rename_i i j e1
    split at e
    · rename_i hf
      cases e
      obtain rfl := view_eq e1 (fun _ z => nomatch z)
      cases r1; cases r2
      refine (op_mul : OpR X _ _) pins s σ H _ _ v u _ I rx ry ⟨_, _, rfl, rfl, ?_, Ext.rfl', .int _⟩
      rcases Bool.or_eq_true_iff.mp hf with z | z
      · exact .inl (fac_ok z)
      · exact .inr (fac_ok z)
    · cases e
  · rename_i a k e1
    split at e
    · rename_i hc
      cases e
      simp only [Bool.and_eq_true, decide_eq_true_eq, Bool.not_eq_true', List.isEmpty_eq_false_iff] at hc
      obtain ⟨⟨⟨h1, h2⟩, h3⟩, h4⟩ := hc
      obtain ⟨a1, xs, rfl, s1, q1, z1⟩ := view_tup r1 e1
      cases r2
      have l1 := q1.length
      exact (op_repB : OpR X _ _) pins s σ H _ _ v u _ I rx ry ⟨a1, _, xs, rfl, by rw [kT]; exact s1.t, reps_ne q1 h1, h2, h3, by rw [← l1]; exact h4, fun p o hp b => ⟨ext_upd hp, rep_newtup hr hp b (q1.rep_flat _) (by rw [flat_len]; have : a.length * k.toNat ≤ 1000 * 1000 := Nat.mul_le_mul h4 (by omega); exact big_line this)⟩⟩
    · split at e <;> cases e
  · rename_i a k e1
    split at e
    · rename_i hc
      cases e
      simp only [Bool.and_eq_true, decide_eq_true_eq] at hc
      obtain ⟨⟨h1, h2⟩, h3⟩ := hc
      obtain ⟨a1, xs, rfl, s1, q1, z1⟩ := view_lst hr r1 e1
      cases r2
      have l1 := q1.length
      exact (op_rep : OpR X _ _) pins s σ H _ _ v u _ I rx ry ⟨a1, _, xs, rfl, rfl, s1, by omega, by omega, by rw [← l1]; exact big_line h3, fun p hp => ⟨ext_upd hp, rep_newlst hr hp (q1.rep_flat _) (by rw [flat_len]; exact big_line h3)⟩⟩
    · cases e
  · cases e
theorem div_S : OpS T X (binaryOp .FloorDiv) gDiv := by
  intro pins s σ H U m h x y xv yv v u z I hr r1 r2 rx ry e
  unfold gDiv at e
  split at e
  · split at e
    · rename_i hc
      cases e
      simp only [Bool.and_eq_true, decide_eq_true_eq] at hc
      cases r1; cases r2
      exact (op_fdiv : OpR X _ _) pins s σ H _ _ v u _ I rx ry ⟨_, _, rfl, rfl, hc, Ext.rfl', .int _⟩
    · cases e
  · cases e
theorem mod_S : OpS T X (binaryOp .Mod) gMod := by
  intro pins s σ H U m h x y xv yv v u z I hr r1 r2 rx ry e
  unfold gMod at e
  split at e
  · split at e
    · rename_i hc
      cases e
      cases r1; cases r2
      exact (op_mod : OpR X _ _) pins s σ H _ _ v u _ I rx ry ⟨_, _, rfl, rfl, of_decide_eq_true hc, Ext.rfl', .int _⟩
    · cases e
  · cases e
theorem pow_S : OpS T X (binaryOp .Pow) gPow := by
  intro pins s σ H U m h x y xv yv v u z I hr r1 r2 rx ry e
  unfold gPow at e
  split at e
  · split at e
    · rename_i hc
      cases e
      simp only [Bool.and_eq_true, decide_eq_true_eq] at hc
      obtain ⟨⟨h1, h2⟩, h3⟩ := hc
      cases r1; cases r2
      have f := fac_ok h3
      exact (op_pow : OpR X _ _) pins s σ H _ _ v u _ I rx ry ⟨_, _, rfl, rfl, ⟨h1, by omega, by omega⟩, Ext.rfl', .int _⟩
    · cases e
  · cases e
theorem neg_S : UnS T X (unaryOp .USub) gNeg := by
  intro pins s σ H U m h x xv v z I hr r1 rx e
  unfold gNeg at e
  split at e
  · cases e
    cases r1
    exact (un_neg : UnR X _ _) pins s σ H _ v _ I rx ⟨_, rfl, Ext.rfl', .int _⟩
  · cases e
end

/-! ### comparisons of data -/
def dd (h : PH) (x y : Val) (k : Val → Val → Bool) : Option Val := if dat (view h x) 60 && dat (view h y) 60 then some (.bl (k (view h x) (view h y))) else none
def gEq (h : PH) (x y : Val) : Option Val := dd h x y veq
def gNe (h : PH) (x y : Val) : Option Val := dd h x y fun a b => !veq a b
def nonB : Val → Bool
  | .non => true
  | _ => false
def ord (h : PH) (x y : Val) (k : Val → Val → Bool) : Option Val := if dat (view h x) 60 && dat (view h y) 60 && valike (view h x) (view h y) && !nonB (view h x) then some (.bl (k (view h x) (view h y))) else none
def gLt (h : PH) (x y : Val) : Option Val := ord h x y vlt
def gGt (h : PH) (x y : Val) : Option Val := ord h x y fun a b => vlt b a
def gLe (h : PH) (x y : Val) : Option Val := ord h x y fun a b => !vlt b a
def gGe (h : PH) (x y : Val) : Option Val := ord h x y fun a b => !vlt a b
/-- the items of a container -/
def items : Val → Option (List Val)
  | .tup xs => some xs
  | .lst xs => some xs
  | _ => none
def inn (h : PH) (x y : Val) (k : Bool → Bool) : Option Val := match view h y with
  | .tup ys => if dat (view h x) 60 && dats ys 60 then some (.bl (k (ys.any fun z => veq z (view h x)))) else none
  | .lst ys => if dat (view h x) 60 && dats ys 60 then some (.bl (k (ys.any fun z => veq z (view h x)))) else none
  | _ => none
def gIn (h : PH) (x y : Val) : Option Val := inn h x y id
def gNotIn (h : PH) (x y : Val) : Option Val := inn h x y not
/-- no dead reference -/
def alive (h : PH) : Val → Bool
  | .ref l => (match h[l]? with | none => false | some .non => false | some _ => true)
  | _ => true
def gIs (h : PH) (x y : Val) : Option Val := match y with
  | .non => if alive h x then some (.bl (nonB x)) else none
  | .bl b => (match x with | .bl a => some (.bl (decide (a = b))) | _ => none)
  | _ => none
def gIsNot (h : PH) (x y : Val) : Option Val := match y with
  | .non => if alive h x then some (.bl (!nonB x)) else none
  | .bl b => (match x with | .bl a => some (.bl (!decide (a = b))) | _ => none)
  | _ => none
section
variable {T : Tab} {X : Cx}
theorem reads_of (kT : X.K = T.K) {pins : List (Addr × Obj)} {s : Shared} {σ : L2.St} {H : Hp} {U : Addr → Prop} {m : List (Option Addr)} {h : PH} {x : Val} {xv : V} {v : Value} {n : Nat} (I : Inv X pins σ H s) (hr : HR T H U m h) (r1 : Rep T H U m x xv) (rx : RelV xv v) (d : dat (view h x) n = true) :
    ∃ as, Reads s.heap v (toD (view h x)) as := Dp.reads I _ _ _ (by rw [kT]; exact view_dp hr r1 d) rx
theorem min_dep {d e : PyData} {n : Nat} (h : d.depth ≤ n) : min d.depth e.depth ≤ n := Nat.le_trans (Nat.min_le_left _ _) h
theorem dd_S {f : Value → Value → Sem Value} {k : Val → Val → Bool} (ok : XOk T X) (hf : ∀ {A : Around} {E : Value → Shared → Prop} {s : Shared} {a b : Value} {da db : PyData} {as bs : List Addr} {Q : Value → Shared → Prop}, Reads s.heap a da as → Reads s.heap b db bs → da.plain = true → db.plain = true → A.units + min da.depth db.depth < cLine → ∀ x y n m, da = toD x → db = toD y → dat x n = true → dat y m = true →
    Q (.bool (k x y)) s → wpAny (model X.prog X.w) A (f a b) Q E s) : OpS T X f fun h x y => dd h x y k := by
  intro pins s σ H U m h x y xv yv v u z I hr r1 r2 rx ry e
  simp only [dd] at e
  split at e
  · rename_i hc
    cases e
    rw [Bool.and_eq_true] at hc
    obtain ⟨as, q1⟩ := reads_of ok.k I hr r1 rx hc.1
    obtain ⟨bs, q2⟩ := reads_of ok.k I hr r2 ry hc.2
    have p1 := dat_plain _ _ hc.1
    have p2 := dat_plain _ _ hc.2
    have hu := ok.un
    have hd : min (toD (view h x)).depth (toD (view h y)).depth ≤ 60 := min_dep p1.2
    exact hf q1 q2 p1.1 p2.1 (by omega) _ _ _ _ rfl rfl hc.1 hc.2 ⟨.bl _, H, I, rfl, Ext.rfl', .bl _⟩
  · cases e
theorem eq_S (ok : XOk T X) : OpS T X (compareOp .Eq) gEq := dd_S ok fun q1 q2 p1 p2 hu x y n m e1 e2 d1 d2 hq => by
  refine PySem.SeqAt.eq_plain q1 q2 p1 p2 hu ?_
  rw [e1, e2, veq_ok x y n m d1 d2]
  exact hq
theorem ne_S (ok : XOk T X) : OpS T X (compareOp .NotEq) gNe := dd_S ok fun q1 q2 p1 p2 hu x y n m e1 e2 d1 d2 hq => by
  refine PySem.SeqAt.ne_plain q1 q2 p1 p2 hu ?_
  rw [e1, e2, veq_ok x y n m d1 d2]
  exact hq
theorem nonB_ok {x : Val} (h : nonB x = false) : x ≠ .non := fun e => by subst e; cases h
theorem toD_non {x : Val} {n : Nat} (d : dat x n = true) (h : nonB x = false) : toD x ≠ .none := fun e => by
  cases x <;> simp [toD, nonB, dat] at e h d
theorem ord_S {f : Value → Value → Sem Value} {k : Val → Val → Bool} (ok : XOk T X) (hf : ∀ {A : Around} {E : Value → Shared → Prop} {s : Shared} {a b : Value} {da db : PyData} {as bs : List Addr} {Q : Value → Shared → Prop}, Reads s.heap a da as → Reads s.heap b db bs → W.alike da db = true → da ≠ .none → A.units + min da.depth db.depth < cLine → ∀ x y n m, da = toD x → db = toD y → dat x n = true → dat y m = true → valike x y = true → nonB x = false →
    Q (.bool (k x y)) s → wpAny (model X.prog X.w) A (f a b) Q E s) : OpS T X f fun h x y => ord h x y k := by
  intro pins s σ H U m h x y xv yv v u z I hr r1 r2 rx ry e
  simp only [ord] at e
  split at e
  · rename_i hc
    cases e
    simp only [Bool.and_eq_true, Bool.not_eq_true'] at hc
    obtain ⟨⟨⟨d1, d2⟩, al⟩, hn⟩ := hc
    obtain ⟨as, q1⟩ := reads_of ok.k I hr r1 rx d1
    obtain ⟨bs, q2⟩ := reads_of ok.k I hr r2 ry d2
    have p1 := dat_plain _ _ d1
    have hu := ok.un
    have hd : min (toD (view h x)).depth (toD (view h y)).depth ≤ 60 := min_dep p1.2
    exact hf q1 q2 (by rw [valike_ok _ _ _ _ d1 d2]; exact al) (toD_non d1 hn) (by omega) _ _ _ _ rfl rfl d1 d2 al hn ⟨.bl _, H, I, rfl, Ext.rfl', .bl _⟩
  · cases e
theorem valike_comm_non {x y : Val} (h : valike x y = true) (hn : nonB x = false) : nonB y = false := by
  cases x <;> cases y <;> simp_all [valike, nonB]
theorem lt_S (ok : XOk T X) : OpS T X (compareOp .Lt) gLt := ord_S ok fun q1 q2 al hn hu x y n m e1 e2 d1 d2 a1 n1 hq => by
  refine PySem.W.lt_data q1 q2 al hn hu ?_
  rw [e1, e2, vlt_ok x y n m d1 d2 a1 (nonB_ok n1)]
  exact hq
theorem valike_comm {x y : Val} {n m : Nat} (d1 : dat x n = true) (d2 : dat y m = true) (h : valike x y = true) : valike y x = true := by
  rw [← valike_ok y x m n d2 d1, PySem.W.alike_comm, valike_ok x y n m d1 d2]
  exact h
theorem gt_S (ok : XOk T X) : OpS T X (compareOp .Gt) gGt := ord_S ok fun q1 q2 al hn hu x y n m e1 e2 d1 d2 a1 n1 hq => by
  refine PySem.W.gt_data q1 q2 al hn hu ?_
  rw [e1, e2, vlt_ok y x m n d2 d1 (valike_comm d1 d2 a1) (nonB_ok (valike_comm_non a1 n1))]
  exact hq
theorem le_S (ok : XOk T X) : OpS T X (compareOp .LtE) gLe := ord_S ok fun q1 q2 al hn hu x y n m e1 e2 d1 d2 a1 n1 hq => by
  refine PySem.W.le_data q1 q2 al hn hu ?_
  rw [e1, e2, vlt_ok y x m n d2 d1 (valike_comm d1 d2 a1) (nonB_ok (valike_comm_non a1 n1))]
  exact hq
theorem ge_S (ok : XOk T X) : OpS T X (compareOp .GtE) gGe := ord_S ok fun q1 q2 al hn hu x y n m e1 e2 d1 d2 a1 n1 hq => by
  refine PySem.W.ge_data q1 q2 al hn hu ?_
  rw [e1, e2, vlt_ok x y n m d1 d2 a1 (nonB_ok n1)]
  exact hq
theorem toDs_any {ys : List Val} {x : Val} {n m : Nat} (d : dats ys n = true) (dx : dat x m = true) : ((toDs ys).any fun z => PyData.eqv z (toD x)) = ys.any fun z => veq z x := by
  induction ys with
  | nil => simp [toDs]
  | cons y ys ih =>
    simp only [dats, Bool.and_eq_true] at d
    simp only [toDs, List.any_cons, ih d.2, veq_ok y x n m d.1 dx]
theorem inn_S (ok : XOk T X) {op : CmpOp} {k : Bool → Bool}
    (hl : ∀ {A : Around} {E : Value → Shared → Prop} {s : Shared} {c x : Value} {xs : List PyData} {d : PyData} {as bs : List Addr} {Q : Value → Shared → Prop}, Reads s.heap c (.list xs) as → Reads s.heap x d bs → PyData.plainAll xs = true → d.plain = true → A.units + 1 + min (PyData.depthAll xs) d.depth < cLine → Q (.bool (k (xs.any fun y => PyData.eqv y d))) s → wpAny (model X.prog X.w) A (compareOp op x c) Q E s)
    (ht : ∀ {A : Around} {E : Value → Shared → Prop} {s : Shared} {c x : Value} {xs : List PyData} {d : PyData} {as bs : List Addr} {Q : Value → Shared → Prop}, Reads s.heap c (.tuple xs) as → Reads s.heap x d bs → PyData.plainAll xs = true → d.plain = true → A.units + 1 + min (PyData.depthAll xs) d.depth < cLine → Q (.bool (k (xs.any fun y => PyData.eqv y d))) s → wpAny (model X.prog X.w) A (compareOp op x c) Q E s) :
    OpS T X (compareOp op) fun h x y => inn h x y k := by
  intro pins s σ H U m h x y xv yv v u z I hr r1 r2 rx ry e
  simp only [inn] at e
  split at e
  case h_3 => cases e
  all_goals
    split at e
    · rename_i ys ey hc
      cases e
      rw [Bool.and_eq_true] at hc
      have dy : dat (view h y) 61 = true := by rw [ey]; simpa only [dat] using hc.2
      obtain ⟨as, q1⟩ := reads_of ok.k I hr r1 rx hc.1
      obtain ⟨bs, q2⟩ := reads_of ok.k I hr r2 ry dy
      have p1 := dat_plain _ _ hc.1
      have p2 := dats_plain _ _ hc.2
      have hu := ok.un
      have hd : min (PyData.depthAll (toDs ys)) (toD (view h x)).depth ≤ 60 := Nat.le_trans (Nat.min_le_left _ _) p2.2
      rw [ey] at q2
      simp only [toD] at q2
      first
        | refine hl q2 q1 p2.1 p1.1 (by omega) ?_
        | refine ht q2 q1 p2.1 p1.1 (by omega) ?_
      rw [toDs_any hc.2 hc.1]
      exact ⟨.bl _, H, I, rfl, Ext.rfl', .bl _⟩
    · cases e
theorem in_S (ok : XOk T X) : OpS T X (compareOp .In) gIn := inn_S ok (fun a b c d e f => PySem.SeqAt.in_list_data a b c d e f) (fun a b c d e f => PySem.SeqAt.in_tuple_data a b c d e f)
theorem notIn_S (ok : XOk T X) : OpS T X (compareOp .NotIn) gNotIn := inn_S ok (fun a b c d e f => PySem.SeqAt.notIn_list_data a b c d e f) (fun a b c d e f => PySem.SeqAt.notIn_tuple_data a b c d e f)
theorem rep_alive {H : Hp} {U : Addr → Prop} {m : List (Option Addr)} {h : PH} {l : Nat} {x : V} (hr : HR T H U m h) (r : Rep T H U m (.ref l) x) (al : alive h (.ref l) = true) : ∃ a, m[l]? = some (some a) ∧ x = .ref a := by
  cases r with
  | ref hl e =>
    cases q : h[l]? with
    | none => simp [alive, q] at al
    | some o =>
      rcases hr.obj l o q with ⟨_, e0⟩ | ⟨a, e1, ob⟩
      · subst e0; simp [alive, q] at al
      · exact ⟨a, e1, e a e1⟩
theorem rep_non {H : Hp} {U : Addr → Prop} {m : List (Option Addr)} {h : PH} {x : Val} {xv : V} (hr : HR T H U m h) (r : Rep T H U m x xv) (al : alive h x = true) : nonB x = decide (xv = .non) := by
  cases x with
  | ref l =>
    obtain ⟨a, _, rfl⟩ := rep_alive hr r al
    simp [nonB]
  | _ => cases r <;> simp [nonB]
theorem is_S : OpS T X (compareOp .Is) gIs := by
  intro pins s σ H U m h x y xv yv v u z I hr r1 r2 rx ry e
  unfold gIs at e
  split at e
  · split at e
    · rename_i al
      cases e
      cases r2
      rw [rep_non hr r1 al]
      exact (op_isN : OpR X _ _) pins s σ H _ _ v u _ I rx ry ⟨rfl, Ext.rfl', .bl _⟩
    · cases e
  · split at e
    · cases e
      cases r1; cases r2
      exact (op_isBl : OpR X _ _) pins s σ H _ _ v u _ I rx ry ⟨_, _, rfl, rfl, Ext.rfl', .bl _⟩
    · cases e
  · cases e
theorem isNot_S : OpS T X (compareOp .IsNot) gIsNot := by
  intro pins s σ H U m h x y xv yv v u z I hr r1 r2 rx ry e
  unfold gIsNot at e
  split at e
  · split at e
    · rename_i al
      cases e
      cases r2
      rw [rep_non hr r1 al]
      exact (op_notN : OpR X _ _) pins s σ H _ _ v u _ I rx ry ⟨rfl, Ext.rfl', .bl _⟩
    · cases e
  · split at e
    · cases e
      cases r1; cases r2
      exact (op_notBl : OpR X _ _) pins s σ H _ _ v u _ I rx ry ⟨_, _, rfl, rfl, Ext.rfl', .bl _⟩
    · cases e
  · cases e
end
end SW

namespace SW
open PySem PySem.Spec PyProof.Rows L2

/-! ### argument lists, displays -/
def eArgs : List Ex → Ev → SM (List Val)
  | [], _ => fun h => .ok [] h
  | e :: es, r => fun h => (e r h).bind fun v h1 => (eArgs es r h1).bind fun vs h2 => .ok (v :: vs) h2
theorem eArgs_len : ∀ {es : List Ex} {r : Ev} {h h' : PH} {vs : List Val}, eArgs es r h = .ok vs h' → vs.length = es.length
  | [], r, h, h', vs, e => by cases e; rfl
  | a :: es, r, h, h', vs, e => by
    simp only [eArgs] at e
    cases e1 : a r h with
    | ok v h1 =>
      rw [e1] at e
      simp only [Res.bind] at e
      cases e2 : eArgs es r h1 with
      | ok ws h2 =>
        rw [e2] at e
        simp only at e
        cases e
        simp [eArgs_len e2]
      | exc _ _ => rw [e2] at e; cases e
      | stuck => rw [e2] at e; cases e
    | exc _ _ => rw [e1] at e; cases e
    | stuck => rw [e1] at e; cases e
def tA (T : Tab) (W : WC) (ms : Ev → SM (List Val)) : TA := fun σ H Q => ∃ U m r h, HR T H U m h ∧ ER T H U m r σ ∧ Out T H U m W (ms r h) fun vs _ H' U' m' => ∀ xs, Reps T H' U' m' vs xs → Q xs H'
def CA (T : Tab) (X : Cx) (es : List Expr) (ms : Ev → SM (List Val)) : Prop := XOk T X → ∀ W, Tk X W → PA X es (tA T W ms)
/-- behind the arguments -/
theorem tA_then {T : Tab} {W : WC} {ms : Ev → SM (List Val)} {β : Type} {f : List Val → SM β} {Kq : β → PH → Hp → (Addr → Prop) → List (Option Addr) → Prop} {σ : L2.St} {H : Hp} {U : Addr → Prop} {m : List (Option Addr)} {r : Ev} {h : PH} (hr : HR T H U m h) (er : ER T H U m r σ) (o : Out T H U m W ((ms r h).bind f) Kq)
    {Q : List V → Hp → Prop} (k : ∀ xs H1 U1 m1 h1 vs, ms r h = .ok vs h1 → Gr H U m H1 U1 m1 → HR T H1 U1 m1 h1 → ER T H1 U1 m1 r σ → Reps T H1 U1 m1 vs xs → Out T H1 U1 m1 W (f vs h1) Kq → Q xs H1) : tA T W ms σ H Q := by
  refine ⟨U, m, r, h, hr, er, ?_⟩
  have o1 := o.bind hr
  cases e : ms r h with
  | ok vs h1 =>
    rw [e] at o1
    exact fun H1 U1 m1 g hr1 xs rx => k xs H1 U1 m1 h1 vs e g hr1 (hr.env g er) rx (o1 H1 U1 m1 g hr1)
  | exc _ _ => rw [e] at o1; exact o1
  | stuck => rw [e] at o1; exact o1
section
variable {T : Tab} {X : Cx} {pos : Pos} {a b c e : Expr} {es : List Expr} {ma mb mc me : Ex} {ms : List Ex}
theorem ca_nil : CA T X [] (eArgs []) := fun _ W tk => pa_imp pa_nil fun σ H Q ⟨U, m, r, h, hr, er, o⟩ => o H U m .refl hr [] .nil
theorem ca_cons (ha : CE T X e me) (hs : CA T X es (eArgs ms)) (hst : starEach (e :: es) X.env = (false, eval e X.env) :: starEach es X.env := by rfl) : CA T X (e :: es) (eArgs (me :: ms)) := fun ok W tk =>
  pa_imp (pa_cons (ha ok W tk) (hs ok W tk) hst) fun σ H Q ⟨U, m, r, h, hr, er, o⟩ => by
    refine tE_then hr er o fun x H1 U1 m1 h1 v g1 hr1 er1 rx o1 => ?_
    refine tA_then hr1 er1 o1 fun xs H2 U2 m2 h2 vs _ g2 hr2 er2 rxs o2 => ?_
    exact o2 H2 U2 m2 .refl hr2 (x :: xs) (.cons (hr1.rep g2 rx) rxs)
def eTup (ms : List Ex) : Ex := fun r h => (eArgs ms r h).bind fun vs h1 => .ok (.tup vs) h1
theorem ce_tup {k : Nat} (hs : CA T X es (eArgs ms)) (hl : ms.length ≤ 1000 := by decide) : CE T X (.Tuple es k pos) (eTup ms) := fun ok W tk =>
  pe_imp (pe_tupB (hs ok W tk)) fun σ H Q ⟨U, m, r, h, hr, er, o⟩ => by
    refine tA_then hr er o fun xs H1 U1 m1 h1 vs e g1 hr1 er1 rxs o1 => ⟨?_, fun p ob hp b => ?_⟩
    · rw [← rxs.length, eArgs_len e]
      exact big_line (Nat.le_trans hl (by decide))
    · exact o1 _ U1 m1 (Gr.of_ext (ext_upd hp)) (hr1.ext (ext_upd hp)) _ (rep_newtup hr1 hp b rxs (by rw [eArgs_len e]; exact big_line (Nat.le_trans hl (by decide))))
end

/-! ### new lists -/
/-- the list at p is new, and nothing knows of it -/
structure NL (T : Tab) (H : Hp) (U : Addr → Prop) (m : List (Option Addr)) (h' : PH) (vs : List Val) (H' : Hp) (U' : Addr → Prop) (m' : List (Option Addr)) (p : Addr) (xs : List V) : Prop where
  nu : ¬ U' p
  nm : ¬ Lv m' p
  fr : H p = none
  gr : Gr H U m H' U' m'
  hr : HR T H' (addU U' p) m' h'
  at_ : H' p = some (.lst xs)
  reps : Reps T H' (addU U' p) m' vs xs
  size : vs.length ≤ sizeLine
def OutN (T : Tab) (H : Hp) (U : Addr → Prop) (m : List (Option Addr)) (W : WC) (r : Res (List Val)) (Q : VK) : Prop := match r with
  | .ok vs h' => ∀ H' U' m' p xs, NL T H U m h' vs H' U' m' p xs → Q (.ref p) H'
  | .exc e h' => ∀ H' U' m' cls d, Gr H U m H' U' m' → HR T H' U' m' h' → ExR T H' U' m' e cls d → W cls d H'
  | .stuck => False
def tN (T : Tab) (W : WC) (mn : Ev → SM (List Val)) : TE := fun σ H Q => ∃ U m r h, HR T H U m h ∧ ER T H U m r σ ∧ OutN T H U m W (mn r h) Q
def CN (T : Tab) (X : Cx) (e : Expr) (mn : Ev → SM (List Val)) : Prop := XOk T X → ∀ W, Tk X W → PE X e (tN T W mn)
/-- as a value that is never written -/
def eFrz (mn : Ev → SM (List Val)) : Ex := fun r h => (mn r h).bind fun vs h1 => .ok (.lst vs) h1
/-- as a located object -/
def eLoc (mn : Ev → SM (List Val)) : Ex := fun r h => (mn r h).bind fun vs h1 => .ok (.ref h1.length) (h1 ++ [.lst vs])
section
variable {T : Tab} {H H' : Hp} {U U' : Addr → Prop} {m m' : List (Option Addr)} {h h' : PH} {p : Addr}
theorem shrinkU : Gw H (SW.addU U p) m H U m := ⟨fun _ _ _ e => e, fun _ z => .inl (.inl z), Nat.le_refl _, fun _ _ _ e => e⟩
theorem HR.shrink (x : HR T H (SW.addU U p) m h) (hp : ¬ Lv m p) : HR T H U m h := ⟨x.len, x.nd, fun a ha => (x.sub a ha).resolve_right fun e => hp (e ▸ ha), fun a ha => x.us a (.inl ha), fun l o q => by
  rcases x.obj l o q with z | ⟨a, e1, e2⟩
  · exact .inl z
  · exact .inr ⟨a, e1, e2.gw x.us shrinkU rfl⟩⟩
end
section
variable {T : Tab} {X : Cx} {pos : Pos} {a b c e : Expr} {es : List Expr} {ma mb mc me : Ex} {ms : List Ex} {mn : Ev → SM (List Val)}
theorem frz_run {W : WC} {σ : L2.St} {H : Hp} {Q : VK} (q : tE T W (eFrz mn) σ H Q) : tN T W mn σ H Q := by
  obtain ⟨U, m, r, h, hr, er, o⟩ := q
  refine ⟨U, m, r, h, hr, er, ?_⟩
  unfold eFrz at o
  cases e1 : mn r h with
  | ok vs h1 =>
    rw [e1] at o
    intro H' U' m' p xs n
    exact o H' U' m' n.gr (n.hr.shrink n.nm) (.ref p) (.lst n.size n.at_ n.nu (Reps.gr shrinkU n.hr.us n.reps))
  | exc _ _ => rw [e1] at o; exact o
  | stuck => rw [e1] at o; exact o
theorem loc_run {W : WC} {σ : L2.St} {H : Hp} {Q : VK} (q : tE T W (eLoc mn) σ H Q) : tN T W mn σ H Q := by
  obtain ⟨U, m, r, h, hr, er, o⟩ := q
  refine ⟨U, m, r, h, hr, er, ?_⟩
  unfold eLoc at o
  cases e1 : mn r h with
  | ok vs h1 =>
    rw [e1] at o
    intro H' U' m' p xs n
    have g : Gr H U m H' (addU U' p) (m' ++ [some p]) := ⟨n.gr.keep, fun a ha => ha.elim (n.gr.new a) fun z => .inr (by rw [z]; exact n.fr), ⟨by have := n.gr.ext.len; simp; omega, fun l a hl e => by
        have h2 := n.gr.ext.len
        rw [List.getElem?_append_left (by omega)] at e
        exact n.gr.ext.old l a hl e, fun l a hl e => by
        by_cases h3 : l < m'.length
        · rw [List.getElem?_append_left h3] at e
          exact n.gr.ext.new l a hl e
        · have : l = m'.length := by
            have := (List.getElem?_eq_some_iff.mp e).1
            simp at this; omega
          subst this
          rw [List.getElem?_append_right (Nat.le_refl _)] at e
          simp at e; rw [← e]; exact n.fr⟩, n.gr.there, fun a h1 h2 h3 => .inl (n.gr.up a h1 h2 h3)⟩
    exact o H' (addU U' p) (m' ++ [some p]) g (n.hr.locate (.inr rfl) n.nm ⟨xs, n.at_, n.reps, n.size⟩) (.ref p) (.ref (by rw [← n.hr.len]; simp) fun a e => by
      rw [← n.hr.len, List.getElem?_append_right (Nat.le_refl _)] at e
      simp at e; rw [e])
  | exc _ _ => rw [e1] at o; exact o
  | stuck => rw [e1] at o; exact o
theorem ce_frz (hn : CN T X e mn) : CE T X e (eFrz mn) := fun ok W tk => pe_imp (hn ok W tk) fun σ H Q q => frz_run q
theorem ce_loc (hn : CN T X e mn) : CE T X e (eLoc mn) := fun ok W tk => pe_imp (hn ok W tk) fun σ H Q q => loc_run q
/-- a list just laid over (H1, U1, m1) -/
theorem NL.of {H H1 : Hp} {U U1 : Addr → Prop} {m m1 : List (Option Addr)} {h h1 : PH} {vs : List Val} {xs : List V} {p : Addr} (hr : HR T H U m h) (hr1 : HR T H1 U1 m1 h1) (g : Gr H U m H1 U1 m1) (hp : H1 p = none) (r : Reps T H1 U1 m1 vs xs) (hz : vs.length ≤ sizeLine) : NL T H U m h1 vs (upd H1 p (.lst xs)) U1 m1 p xs :=
  ⟨hr1.notin hp, hr1.notlv hp, g.fresh hp, hr.trans hr1 g (Gr.of_ext (ext_upd hp)), hr1.addU hp True.intro, upd_same, hr1.reps (growU hp) r, hz⟩
theorem cn_lst (hs : CA T X es (eArgs ms)) (hl : ms.length ≤ 1000 := by decide) : CN T X (.List es pos) (eArgs ms) := fun ok W tk =>
  pe_imp (pe_lst (hs ok W tk)) fun σ H Q ⟨U, m, r, h, hr, er, o⟩ => by
    refine ⟨U, m, r, h, hr, er, ?_⟩
    cases e1 : eArgs ms r h with
    | ok vs h1 =>
      rw [e1] at o
      intro H1 U1 m1 g hr1 xs rxs
      refine ⟨?_, fun p hp => o _ U1 m1 p xs (NL.of hr hr1 g hp rxs (by rw [eArgs_len e1]; exact big_line (Nat.le_trans hl (by decide))))⟩
      rw [← rxs.length, eArgs_len e1]
      exact big_line (Nat.le_trans hl (by decide))
    | exc _ _ => rw [e1] at o; exact o
    | stuck => rw [e1] at o; exact o
end

/-! ### tests -/
def truth (h : PH) (v : Val) : Option Bool := match view h v with
  | .bl b => some b
  | .int i => some (i != 0)
  | .non => some false
  | .tup xs => some (!xs.isEmpty)
  | .lst xs => some (!xs.isEmpty)
  | _ => none
def truthM (v : Val) : SM Bool := fun h => lift (truth h v) h
def tT (T : Tab) (W : WC) (me : Ex) : TT := fun σ H Q => ∃ U m r h, HR T H U m h ∧ ER T H U m r σ ∧ Out T H U m W ((me r h).bind truthM) fun b _ H' _ _ => Q b H'
def CT (T : Tab) (X : Cx) (e : Expr) (me : Ex) : Prop := XOk T X → ∀ W, Tk X W → PT X e (tT T W me)
def CW (T : Tab) (X : Cx) (e : Expr) (me : Ex) : Prop := XOk T X → ∀ W, Tk X W → PW X e (tT T W me)
/-- a test, then: the two ways -/
theorem tT_then {T : Tab} {W : WC} {me : Ex} {β : Type} {f : Bool → SM β} {Kq : β → PH → Hp → (Addr → Prop) → List (Option Addr) → Prop} {σ : L2.St} {H : Hp} {U : Addr → Prop} {m : List (Option Addr)} {r : Ev} {h : PH} (hr : HR T H U m h) (er : ER T H U m r σ) (o : Out T H U m W (((me r h).bind truthM).bind f) Kq)
    {Q : Bool → Hp → Prop} (k : ∀ b H1 U1 m1 h1, Gr H U m H1 U1 m1 → HR T H1 U1 m1 h1 → ER T H1 U1 m1 r σ → Out T H1 U1 m1 W (f b h1) Kq → Q b H1) : tT T W me σ H Q :=
  ⟨U, m, r, h, hr, er, (o.bind hr).mono fun b h1 H1 U1 m1 g hr1 o1 => k b H1 U1 m1 h1 g hr1 (hr.env g er) o1⟩
theorem Res.bind_assoc {α β γ : Type} (r : Res α) (f : α → SM β) (g : β → SM γ) : (r.bind f).bind g = r.bind fun a h => (f a h).bind g := by
  cases r <;> rfl
theorem truth_ok {T : Tab} {X : Cx} (kT : X.K = T.K) {H : Hp} {U : Addr → Prop} {m : List (Option Addr)} {h : PH} {v : Val} {x : V} {b : Bool} (hr : HR T H U m h) (r : Rep T H U m v x) (e : truth h v = some b) : TruV X.K x H b := by
  unfold truth at e
  split at e
  · rename_i c e1
    cases e
    obtain rfl := view_eq e1 (fun _ z => nomatch z)
    cases r; rfl
  · rename_i c e1
    cases e
    obtain rfl := view_eq e1 (fun _ z => nomatch z)
    cases r; rfl
  · rename_i e1
    cases e
    obtain rfl := view_eq e1 (fun _ z => nomatch z)
    cases r; rfl
  · rename_i xs e1
    cases e
    obtain ⟨a, ys, rfl, s1, q, _⟩ := view_tup r e1
    refine .inr (.inl ⟨ys, by rw [kT]; exact s1.t, ?_⟩)
    have l := q.length
    cases xs <;> cases ys <;> simp at l ⊢
  · rename_i xs e1
    cases e
    obtain ⟨a, ys, rfl, s1, q, _⟩ := view_lst hr r e1
    refine .inl ⟨ys, .of s1, ?_⟩
    have l := q.length
    cases xs <;> cases ys <;> simp at l ⊢
  · cases e
/-- what tells a truth value alone -/
def IsB (g : PH → Val → Val → Option Val) : Prop := ∀ h x y z, g h x y = some z → ∃ b, z = .bl b
theorem isB_dd {k : Val → Val → Bool} : IsB fun h x y => dd h x y k := fun h x y z e => by
  simp only [dd] at e
  split at e
  · cases e; exact ⟨_, rfl⟩
  · cases e
theorem isB_ord {k : Val → Val → Bool} : IsB fun h x y => ord h x y k := fun h x y z e => by
  simp only [ord] at e
  split at e
  · cases e; exact ⟨_, rfl⟩
  · cases e
theorem isB_inn {k : Bool → Bool} : IsB fun h x y => inn h x y k := fun h x y z e => by
  simp only [inn] at e
  split at e
  · split at e
    · cases e; exact ⟨_, rfl⟩
    · cases e
  · split at e
    · cases e; exact ⟨_, rfl⟩
    · cases e
  · cases e
theorem isB_is : IsB gIs := fun h x y z e => by
  unfold gIs at e
  split at e
  · split at e
    · cases e; exact ⟨_, rfl⟩
    · cases e
  · split at e
    · cases e; exact ⟨_, rfl⟩
    · cases e
  · cases e
theorem isB_isNot : IsB gIsNot := fun h x y z e => by
  unfold gIsNot at e
  split at e
  · split at e
    · cases e; exact ⟨_, rfl⟩
    · cases e
  · split at e
    · cases e; exact ⟨_, rfl⟩
    · cases e
  · cases e
def eAnd (a b : Ex) : Ex := fun r h => (a r h).bind fun x h1 => match x with
  | .bl true => b r h1
  | .bl false => .ok (.bl false) h1
  | _ => .stuck
def eOr (a b : Ex) : Ex := fun r h => (a r h).bind fun x h1 => match x with
  | .bl true => .ok (.bl true) h1
  | .bl false => b r h1
  | _ => .stuck
def eNot (a : Ex) : Ex := fun r h => (a r h).bind fun x h1 => match x with
  | .bl b => .ok (.bl (!b)) h1
  | _ => .stuck
def eIf (c a b : Ex) : Ex := fun r h => ((c r h).bind truthM).bind fun k h1 => if k then a r h1 else b r h1
def eChain (g g' : PH → Val → Val → Option Val) (a b c : Ex) : Ex := fun r h => (a r h).bind fun x h1 => (b r h1).bind fun y h2 => (lift (g h2 x y) h2).bind fun z h3 => match z with
  | .bl true => (c r h3).bind fun w h4 => lift (g' h4 y w) h4
  | .bl false => .ok (.bl false) h3
  | _ => .stuck
section
variable {T : Tab} {X : Cx} {pos : Pos} {a b c e : Expr} {es rest : List Expr} {ma mb mc me : Ex}
theorem ct_of (ha : CE T X a ma) (he : ∀ whole, isTrue a X.env whole = (do let v ← whole; standAt a.pos; holding [v] (truthy v)) := by intro _; rfl) : CT T X a ma := fun ok W tk =>
  pt_imp (pt_truth (ha ok W tk) he) fun σ H Q ⟨U, m, r, h, hr, er, o⟩ => by
    refine tE_then hr er o fun x H1 U1 m1 h1 v g1 hr1 er1 rx o1 => ?_
    obtain ⟨k, ek⟩ := Out.lift_some o1
    refine ⟨k, truth_ok ok.k hr1 rx ek, ?_⟩
    unfold truthM at o1
    rw [ek] at o1
    exact o1 H1 U1 m1 .refl hr1
/-- a run of a comparison, tested -/
theorem cmp_test {r : R2} {g : PH → Val → Val → Option Val} (hg : Op2 T r g) (hb : IsB g) {W : WC} {σ : L2.St} {H : Hp} {Q : Bool → Hp → Prop} (q : tT T W (eBin g ma mb) σ H Q) : tTest (tOp r (tE T W ma) (tE T W mb)) σ H Q := by
  obtain ⟨U, m, ρ, h, hr, er, o⟩ := q
  unfold eBin at o
  rw [Res.bind_assoc] at o
  refine tE_then hr er o fun x H1 U1 m1 h1 v g1 hr1 er1 rx o1 => ?_
  rw [Res.bind_assoc] at o1
  refine tE_then hr1 er1 o1 fun y H2 U2 m2 h2 w g2 hr2 er2 ry o2 => ?_
  obtain ⟨z, ez⟩ : ∃ z, g h2 v w = some z := by
    cases e : g h2 v w with
    | none => rw [e] at o2; exact (show False from o2).elim
    | some z => exact ⟨z, rfl⟩
  obtain ⟨k, rfl⟩ := hb _ _ _ _ ez
  refine hg hr2 (hr1.rep g2 rx) ry ez fun z' H' ex rz => ?_
  cases rz
  refine ⟨k, rfl, ?_⟩
  rw [ez] at o2
  exact o2 H' U2 m2 (Gr.of_ext ex) (hr2.ext ex)
theorem ct_cmp {op : CmpOp} {r : R2} {g : PH → Val → Val → Option Val} (ho : XOk T X → OpR X (compareOp op) r) (hg : Op2 T r g) (hb : IsB g) (ha : CE T X a ma) (hbb : CE T X b mb) (hm : behindInMarks op b = false) : CT T X (.Compare a [op] [b] pos) (eBin g ma mb) := fun ok W tk =>
  pt_imp (pt_cmpR (ho ok) (ha ok W tk) (hbb ok W tk) hm) fun σ H Q q => cmp_test hg hb q
theorem chain_run {r r' : R2} {g g' : PH → Val → Val → Option Val} (hg : Op2 T r g) (hg' : Op2 T r' g') (hb : IsB g) {W : WC} {σ : L2.St} {H : Hp} {Q : VK} (q : tE T W (eChain g g' ma mb mc) σ H Q) : tChain r r' (tE T W ma) (tE T W mb) (tE T W mc) σ H Q := by
  obtain ⟨U, m, ρ, h, hr, er, o⟩ := q
  refine tE_then hr er o fun x H1 U1 m1 h1 v g1 hr1 er1 rx o1 => ?_
  refine tE_then hr1 er1 o1 fun y H2 U2 m2 h2 w g2 hr2 er2 ry o2 => ?_
  obtain ⟨z, ez⟩ : ∃ z, g h2 v w = some z := by
    cases e : g h2 v w with
    | none => rw [e] at o2; exact (show False from o2).elim
    | some z => exact ⟨z, rfl⟩
  obtain ⟨k, rfl⟩ := hb _ _ _ _ ez
  refine hg hr2 (hr1.rep g2 rx) ry ez fun z' H' ex rz => ?_
  cases rz
  refine ⟨k, rfl, ?_⟩
  rw [ez] at o2
  have hr3 := hr2.ext ex
  have g3 : Gr H2 U2 m2 H' U2 m2 := Gr.of_ext ex
  have er3 := hr2.env g3 er2
  cases k with
  | false =>
    rw [if_neg Bool.false_ne_true]
    exact o2 H' U2 m2 g3 hr3 _ (.bl _)
  | true =>
    rw [if_pos rfl]
    have o3 : Out T H' U2 m2 W ((mc ρ h2).bind fun w' h4 => lift (g' h4 w w') h4) fun v _ H' U' m' => ∀ x, Rep T H' U' m' v x → Q x H' := Out.step hr2 hr3 g3 o2
    refine tE_then hr3 er3 o3 fun x3 H4 U4 m4 h4 v4 g4 hr4 er4 r4 o4 => ?_
    obtain ⟨z4, ez4⟩ := Out.lift_some o4
    exact hg' hr4 (hr3.rep g4 (hr2.rep g3 ry)) r4 ez4 fun z5 H5 ex5 rz5 => Out.pure hr4 o4 ex5 ez4 z5 rz5
theorem ce_chain {op op' : CmpOp} {r r' : R2} {g g' : PH → Val → Val → Option Val} (ho : XOk T X → OpR X (compareOp op) r) (ho' : XOk T X → OpR X (compareOp op') r') (hg : Op2 T r g) (hg' : Op2 T r' g') (hbg : IsB g) (ha : CE T X a ma) (hb : CE T X b mb) (hc : CE T X c mc)
    (hm : lastMarks [op, op'] [b, c] = false := by with_unfolding_all rfl) : CE T X (.Compare a [op, op'] [b, c] pos) (eChain g g' ma mb mc) := fun ok W tk =>
  pe_imp (pe_chain (ho ok) (ho' ok) (ha ok W tk) (hb ok W tk) (hc ok W tk) hm) fun σ H Q q => chain_run hg hg' hbg q
theorem tT_tTest {t : TE} {W : WC} {me : Ex} {σ : L2.St} {H : Hp} {Q : Bool → Hp → Prop} (hb : ∀ r h z h', me r h = .ok z h' → ∃ b, z = .bl b) (q : tT T W me σ H Q) (k : ∀ Q', tE T W me σ H Q' → t σ H Q') : tTest t σ H Q := by
  obtain ⟨U, m, ρ, h, hr, er, o⟩ := q
  refine k _ ⟨U, m, ρ, h, hr, er, ?_⟩
  cases e : me ρ h with
  | ok z h' =>
    rw [e] at o
    obtain ⟨b, rfl⟩ := hb _ _ _ _ e
    intro H' U' m' g hr' x rx
    cases rx
    exact ⟨b, rfl, o H' U' m' g hr'⟩
  | exc _ _ => rw [e] at o; exact o
  | stuck => rw [e] at o; exact o
theorem eChain_B {g g' : PH → Val → Val → Option Val} (hb' : IsB g') : ∀ r h z h', eChain g g' ma mb mc r h = .ok z h' → ∃ b, z = .bl b := by
  intro r h z h' e
  unfold eChain at e
  cases e1 : ma r h with
  | ok x h1 =>
    rw [e1] at e
    simp only [Res.bind] at e
    cases e2 : mb r h1 with
    | ok y h2 =>
      rw [e2] at e
      simp only at e
      cases e3 : g h2 x y with
      | none => rw [e3] at e; cases e
      | some w =>
        rw [e3] at e
        simp only [lift] at e
        split at e
        · cases e4 : mc r h2 with
          | ok w4 h4 =>
            rw [e4] at e
            simp only at e
            cases e5 : g' h4 y w4 with
            | none => rw [e5] at e; cases e
            | some z5 => rw [e5] at e; cases e; exact hb' _ _ _ _ e5
          | exc _ _ => rw [e4] at e; cases e
          | stuck => rw [e4] at e; cases e
        · cases e; exact ⟨_, rfl⟩
        · cases e
    | exc _ _ => rw [e2] at e; cases e
    | stuck => rw [e2] at e; cases e
  | exc _ _ => rw [e1] at e; cases e
  | stuck => rw [e1] at e; cases e
theorem ct_chain {op op' : CmpOp} {r r' : R2} {g g' : PH → Val → Val → Option Val} (ho : XOk T X → OpR X (compareOp op) r) (ho' : XOk T X → OpR X (compareOp op') r') (hg : Op2 T r g) (hg' : Op2 T r' g') (hbg : IsB g) (hbg' : IsB g') (ha : CE T X a ma) (hb : CE T X b mb) (hc : CE T X c mc)
    (hm : lastMarks [op, op'] [b, c] = false := by with_unfolding_all rfl) : CT T X (.Compare a [op, op'] [b, c] pos) (eChain g g' ma mb mc) := fun ok W tk =>
  pt_imp (pt_chain (ho ok) (ho' ok) (ha ok W tk) (hb ok W tk) (hc ok W tk) hm) fun σ H Q q => tT_tTest (eChain_B hbg') q fun Q' q' => chain_run hg hg' hbg q'

/-! and, or, not, if -/
theorem ce_one {op : BoolOp} (ha : CE T X a ma) : CE T X (.BoolOp op [a] pos) ma := fun ok W tk => pe_one (ha ok W tk)
theorem ce_and (ha : CE T X a ma) (hb : CE T X (.BoolOp .And (b :: rest) pos) mb) : CE T X (.BoolOp .And (a :: b :: rest) pos) (eAnd ma mb) := fun ok W tk =>
  pe_imp (pe_and (ha ok W tk) (hb ok W tk)) fun σ H Q ⟨U, m, r, h, hr, er, o⟩ => by
    refine tE_then hr er o fun x H1 U1 m1 h1 v g1 hr1 er1 rx o1 => ?_
    split at o1
    · cases rx
      exact ⟨true, rfl, by rw [if_pos rfl]; exact ⟨U1, m1, r, h1, hr1, er1, o1⟩⟩
    · cases rx
      exact ⟨false, rfl, by rw [if_neg Bool.false_ne_true]; exact o1 H1 U1 m1 .refl hr1 _ (.bl _)⟩
    · exact (show False from o1).elim
theorem ce_or (ha : CE T X a ma) (hb : CE T X (.BoolOp .Or (b :: rest) pos) mb) : CE T X (.BoolOp .Or (a :: b :: rest) pos) (eOr ma mb) := fun ok W tk =>
  pe_imp (pe_or (ha ok W tk) (hb ok W tk)) fun σ H Q ⟨U, m, r, h, hr, er, o⟩ => by
    refine tE_then hr er o fun x H1 U1 m1 h1 v g1 hr1 er1 rx o1 => ?_
    split at o1
    · cases rx
      exact ⟨true, rfl, by rw [if_pos rfl]; exact o1 H1 U1 m1 .refl hr1 _ (.bl _)⟩
    · cases rx
      exact ⟨false, rfl, by rw [if_neg Bool.false_ne_true]; exact ⟨U1, m1, r, h1, hr1, er1, o1⟩⟩
    · exact (show False from o1).elim
theorem ce_not (ha : CE T X a ma) : CE T X (.UnaryOp .Not a pos) (eNot ma) := fun ok W tk =>
  pe_imp (pe_not (ha ok W tk)) fun σ H Q ⟨U, m, r, h, hr, er, o⟩ => by
    refine tE_then hr er o fun x H1 U1 m1 h1 v g1 hr1 er1 rx o1 => ?_
    split at o1
    · cases rx
      exact ⟨_, rfl, o1 H1 U1 m1 .refl hr1 _ (.bl _)⟩
    · exact (show False from o1).elim
theorem ce_if (hc : CT T X c mc) (ha : CE T X a ma) (hb : CE T X b mb) : CE T X (.IfExp c a b pos) (eIf mc ma mb) := fun ok W tk =>
  pe_imp (pe_ifExp (hc ok W tk) (ha ok W tk) (hb ok W tk)) fun σ H Q ⟨U, m, r, h, hr, er, o⟩ => by
    refine tT_then hr er o fun k H1 U1 m1 h1 g1 hr1 er1 o1 => ?_
    cases k with
    | true => rw [if_pos rfl]; exact ⟨U1, m1, r, h1, hr1, er1, o1⟩
    | false => rw [if_neg Bool.false_ne_true]; exact ⟨U1, m1, r, h1, hr1, er1, o1⟩
/-- within tests: what is tested need not be a truth value -/
def kAnd (a b : Ex) : Ex := fun r h => ((a r h).bind truthM).bind fun k h1 => if k then b r h1 else .ok (.bl false) h1
def kOr (a b : Ex) : Ex := fun r h => ((a r h).bind truthM).bind fun k h1 => if k then .ok (.bl true) h1 else b r h1
def kNot (a : Ex) : Ex := fun r h => ((a r h).bind truthM).bind fun k h1 => .ok (.bl (!k)) h1
theorem cw_and1 (ha : CT T X a ma) : CW T X (.BoolOp .And [a] pos) ma := fun ok W tk => pw_and1 (ha ok W tk)
theorem cw_or1 (ha : CT T X a ma) : CW T X (.BoolOp .Or [a] pos) ma := fun ok W tk => pw_or1 (ha ok W tk)
theorem ct_cw (h : CW T X e me) : CT T X e me := fun ok W tk => (h ok W tk).pt
theorem cw_and (ha : CT T X a ma) (hb : CW T X (.BoolOp .And (b :: rest) pos) mb) : CW T X (.BoolOp .And (a :: b :: rest) pos) (kAnd ma mb) := fun ok W tk =>
  pw_imp (pw_and (ha ok W tk) (hb ok W tk)) fun σ H Q ⟨U, m, r, h, hr, er, o⟩ => by
    unfold kAnd at o
    rw [Res.bind_assoc] at o
    refine tT_then hr er o fun k H1 U1 m1 h1 g1 hr1 er1 o1 => ?_
    cases k with
    | true => rw [if_pos rfl]; exact ⟨U1, m1, r, h1, hr1, er1, o1⟩
    | false => rw [if_neg Bool.false_ne_true]; exact o1 H1 U1 m1 .refl hr1
theorem cw_or (ha : CT T X a ma) (hb : CW T X (.BoolOp .Or (b :: rest) pos) mb) : CW T X (.BoolOp .Or (a :: b :: rest) pos) (kOr ma mb) := fun ok W tk =>
  pw_imp (pw_or (ha ok W tk) (hb ok W tk)) fun σ H Q ⟨U, m, r, h, hr, er, o⟩ => by
    unfold kOr at o
    rw [Res.bind_assoc] at o
    refine tT_then hr er o fun k H1 U1 m1 h1 g1 hr1 er1 o1 => ?_
    cases k with
    | true => rw [if_pos rfl]; exact o1 H1 U1 m1 .refl hr1
    | false => rw [if_neg Bool.false_ne_true]; exact ⟨U1, m1, r, h1, hr1, er1, o1⟩
theorem ct_not (ha : CT T X a ma) : CT T X (.UnaryOp .Not a pos) (kNot ma) := fun ok W tk =>
  pt_imp (pt_not (ha ok W tk)) fun σ H Q ⟨U, m, r, h, hr, er, o⟩ => by
    unfold kNot at o
    rw [Res.bind_assoc] at o
    refine tT_then hr er o fun k H1 U1 m1 h1 g1 hr1 er1 o1 => ?_
    exact o1 H1 U1 m1 .refl hr1
/-- the rules by the semantic operations -/
theorem ce_bop {op : Operator} {g : PH → Val → Val → Option Val} (ho : XOk T X → OpS T X (binaryOp op) g) (ha : CE T X a ma) (hb : CE T X b mb) : CE T X (.BinOp a op b pos) (eBin g ma mb) := fun ok => ce_op (OpS.r (@ho ok)) OpS.op ha hb ok
theorem ce_cop {op : CmpOp} {g : PH → Val → Val → Option Val} (ho : XOk T X → OpS T X (compareOp op) g) (ha : CE T X a ma) (hb : CE T X b mb) (hm : behindInMarks op b = false) : CE T X (.Compare a [op] [b] pos) (eBin g ma mb) := fun ok => ce_cmp (OpS.r (@ho ok)) OpS.op ha hb hm ok
theorem ct_cop {op : CmpOp} {g : PH → Val → Val → Option Val} (ho : XOk T X → OpS T X (compareOp op) g) (hg : IsB g) (ha : CE T X a ma) (hb : CE T X b mb) (hm : behindInMarks op b = false) : CT T X (.Compare a [op] [b] pos) (eBin g ma mb) := ct_cmp (fun ok => (OpS.r (@ho ok))) OpS.op hg ha hb hm
theorem ce_neg (ha : CE T X a ma) : CE T X (.UnaryOp .USub a pos) (eUn gNeg ma) := ce_un neg_S.r UnS.op ha
end
end SW

namespace SW
open PySem PySem.Spec PyProof.Rows L2

/-! ### subscripts -/
def gIx (h : PH) (x y : Val) : Option Val := match y with
  | .int i => (match view h x with
    | .tup xs => atI xs i
    | .lst xs => atI xs i
    | .str z => if z.length ≤ big then (atI z.cps.toList i).map fun c => .str ⟨#[c]⟩ else none
    | _ => none)
  | _ => none
section
variable {T : Tab} {X : Cx}
theorem atI_reps {H : Hp} {U : Addr → Prop} {m : List (Option Addr)} {vs : List Val} {xs : List V} {i : Int} {v : Val} (r : Reps T H U m vs xs) (e : atI vs i = some v) : ∃ x, atI xs i = some x ∧ Rep T H U m v x := by
  unfold atI at e ⊢
  rw [← r.length]
  cases q : ixN vs.length i with
  | none => rw [q] at e; cases e
  | some j =>
    rw [q] at e
    exact r.get e
theorem ix_op : Op2 T (rIx T.K) gIx := by
  intro H U m h x y xv yv v Q hr r1 r2 e k
  unfold gIx at e
  split at e
  · cases r2
    split at e
    · rename_i xs ex
      obtain ⟨a, ys, rfl, s1, q, hz⟩ := view_tup r1 ex
      obtain ⟨z, ez, rz⟩ := atI_reps q e
      exact .inr (.inl ⟨a, ys, _, z, rfl, rfl, s1.t, ez, k z H Ext.rfl' rz⟩)
    · rename_i xs ex
      obtain ⟨a, ys, rfl, s1, q, hz⟩ := view_lst hr r1 ex
      obtain ⟨z, ez, rz⟩ := atI_reps q e
      exact .inl ⟨a, ys, _, z, rfl, rfl, .of s1, ez, k z H Ext.rfl' rz⟩
    · rename_i z ez
      split at e
      · rename_i hz
        obtain rfl := view_eq ez (fun _ z => nomatch z)
        cases r1
        cases q : atI z.cps.toList _ with
        | none => rw [q] at e; cases e
        | some c => rw [q] at e; cases e; exact .inr (.inr ⟨z, _, c, rfl, rfl, big_line hz, q, k _ H Ext.rfl' (.str _)⟩)
      · cases e
    · cases e
  · cases e
theorem ce_ix {a b : Expr} {ma mb : Ex} {pos : Pos} (ha : CE T X a ma) (hb : CE T X b mb) (hs : PlainIx b := by exact fun _ _ => rfl) : CE T X (.Subscript a b pos) (eBin gIx ma mb) := fun ok W tk =>
  pe_imp (pe_ix (ix_seq (X := X)) (ha ok W tk) (hb ok W tk) hs) fun σ H Q q => by
    rw [ok.k]
    exact op2_run ix_op q
end

/-! ### slices -/
/-- a part of a slice -/
def tO (T : Tab) (W : WC) (me : Option Ex) : TO := fun σ H Q => match me with
  | none => Q none H
  | some me => ∃ U m r h, HR T H U m h ∧ ER T H U m r σ ∧ Out T H U m W ((me r h).bind fun v h1 => lift (match v with | .int i => some i | _ => none) h1) fun i _ H' _ _ => Q (some i) H'
def CO (T : Tab) (X : Cx) (e : Option Expr) (me : Option Ex) : Prop := XOk T X → ∀ W, Tk X W → PO X e (tO T W me)
def ePart (me : Option Ex) : Ev → SM (Option Int) := fun r h => match me with
  | none => .ok none h
  | some me => (me r h).bind fun v h1 => lift (match v with | .int i => some (some i) | _ => none) h1
def cutL {α : Type} (xs : List α) (lo hi : Option Int) : List α := (xs.drop (HT.sIx xs.length 0 lo)).take (HT.sIx xs.length xs.length hi - HT.sIx xs.length 0 lo)
def eSlc {α : Type} (g : PH → Val → Option Int → Option Int → Option α) (a : Ex) (lo hi : Option Ex) : Ev → SM α := fun r h => (a r h).bind fun x h1 => (ePart lo r h1).bind fun l h2 => (ePart hi r h2).bind fun u h3 => lift (g h3 x l u) h3
/-- of tuples and texts -/
def gCut (h : PH) (x : Val) (lo hi : Option Int) : Option Val := match view h x with
  | .tup xs => some (.tup (cutL xs lo hi))
  | _ => none
/-- of lists -/
def gCutN (h : PH) (x : Val) (lo hi : Option Int) : Option (List Val) := match view h x with
  | .lst xs => some (cutL xs lo hi)
  | .ins 0 xs => some (cutL xs lo hi)
  | _ => none
section
variable {T : Tab} {X : Cx} {a e : Expr} {ma me : Ex} {lo hi : Option Expr} {ml mh : Option Ex} {pos p2 : Pos}
theorem co_none : CO T X none none := fun ok W tk => ⟨fun pins s σ H Q I h => po_none.run pins s σ H Q I h⟩
theorem co_some (ha : CE T X e me) : CO T X (some e) (some me) := fun ok W tk => ⟨fun pins s σ H Q I h => (po_some (ha ok W tk)).run pins s σ H Q I (by
  obtain ⟨U, m, r, hh, hr, er, o⟩ := h
  refine tE_then hr er o fun x H1 U1 m1 h1 v g1 hr1 er1 rx o1 => ?_
  cases v with
  | int i =>
    cases rx
    exact ⟨i, rfl, o1 H1 U1 m1 .refl hr1⟩
  | _ => exact (show False from o1).elim)⟩
theorem cut_len {α : Type} (xs : List α) (lo hi : Option Int) : (cutL xs lo hi).length ≤ xs.length := by
  unfold cutL
  rw [List.length_take, List.length_drop]; omega
theorem cut_reps {H : Hp} {U : Addr → Prop} {m : List (Option Addr)} {vs : List Val} {xs : List V} (r : Reps T H U m vs xs) (lo hi : Option Int) : Reps T H U m (cutL vs lo hi) (cutV xs lo hi) := by
  unfold cutL cutV
  rw [r.length]
  exact (r.drop _).take _
/-- the parts of a slice, then the rest -/
theorem part_then {W : WC} {β : Type} {f : Option Int → SM β} {Kq : β → PH → Hp → (Addr → Prop) → List (Option Addr) → Prop} {σ : L2.St} {H : Hp} {U : Addr → Prop} {m : List (Option Addr)} {r : Ev} {h : PH} (hr : HR T H U m h) (er : ER T H U m r σ) (o : Out T H U m W ((ePart ml r h).bind f) Kq)
    {Q : Option Int → Hp → Prop} (k : ∀ i H1 U1 m1 h1, Gr H U m H1 U1 m1 → HR T H1 U1 m1 h1 → ER T H1 U1 m1 r σ → Out T H1 U1 m1 W (f i h1) Kq → Q i H1) : tO T W ml σ H Q := by
  cases ml with
  | none => exact k none H U m h .refl hr er o
  | some me =>
    refine ⟨U, m, r, h, hr, er, ?_⟩
    have o1 := o.bind hr
    dsimp only [ePart] at o1
    cases e1 : me r h with
    | ok v h1 =>
      rw [e1] at o1
      simp only [Res.bind] at o1 ⊢
      cases v with
      | int i => exact fun H1 U1 m1 g hr1 => k _ H1 U1 m1 h1 g hr1 (hr.env g er) (o1 H1 U1 m1 g hr1)
      | _ => exact (show False from o1).elim
    | exc _ _ => rw [e1] at o1; exact o1
    | stuck => rw [e1] at o1; exact o1
theorem ce_slc (ha : CE T X a ma) (hl : CO T X lo ml) (hh : CO T X hi mh) : CE T X (.Subscript a (.Slice lo hi none p2) pos) (eSlc gCut ma ml mh) := fun ok W tk =>
  pe_imp (pe_slice (sl_tupB (X := X)) (ha ok W tk) (hl ok W tk) (hh ok W tk)) fun σ H Q ⟨U, m, r, h, hr, er, o⟩ => by
    refine tE_then hr er o fun x H1 U1 m1 h1 v g1 hr1 er1 rx o1 => ?_
    refine part_then hr1 er1 o1 fun l H2 U2 m2 h2 g2 hr2 er2 o2 => ?_
    refine part_then hr2 er2 o2 fun u H3 U3 m3 h3 g3 hr3 er3 o3 => ?_
    obtain ⟨z, ez⟩ := Out.lift_some o3
    have e0 := ez
    unfold gCut at ez
    split at ez
    · rename_i xs ex
      cases ez
      obtain ⟨a', ys, rfl, s1, q, hz⟩ := view_tup (hr2.rep g3 (hr1.rep g2 rx)) ex
      have qc := cut_reps q l u
      refine ⟨a', ys, rfl, by rw [ok.k]; exact s1.t, fun ⟨e1, e2⟩ => ?_, fun _ p o hp b => ?_⟩
      · refine Out.pure hr3 o3 Ext.rfl' e0 _ (.tup (Nat.le_trans (cut_len _ _ _) hz) s1 ?_)
        have : cutV ys l u = ys := by unfold cutV; rw [e1, e2]; simp
        rw [← this]
        exact qc
      · exact Out.pure hr3 o3 (ext_upd hp) e0 _ (rep_newtup hr3 hp b qc (Nat.le_trans (cut_len _ _ _) hz))
    · cases ez
theorem scr_view {H : Hp} {U : Addr → Prop} {m : List (Option Addr)} {h : PH} {v : Val} {x : V} {vs : List Val} (r : Rep T H U m v x) (e : view h v = .ins 0 vs) : ∃ a xs, x = .ref a ∧ SqL T.K H a xs ∧ Reps T H U m vs xs ∧ vs.length ≤ sizeLine := by
  obtain rfl := view_eq e (fun _ z => nomatch z)
  cases r with
  | scr h0 h1 h4 => exact ⟨_, _, rfl, h1.imp (·.1) id, h4, h0⟩
  | ins h0 _ _ _ _ => exact absurd h0 (by decide)
theorem cn_slc (ha : CE T X a ma) (hl : CO T X lo ml) (hh : CO T X hi mh) : CN T X (.Subscript a (.Slice lo hi none p2) pos) (eSlc gCutN ma ml mh) := fun ok W tk =>
  pe_imp (pe_slice (sl_list (X := X)) (ha ok W tk) (hl ok W tk) (hh ok W tk)) fun σ H Q ⟨U, m, r, h, hr, er, o⟩ => by
    have o' : Out T H U m W ((ma r h).bind fun x h1 => (ePart ml r h1).bind fun l h2 => (ePart mh r h2).bind fun u h3 => lift (gCutN h3 x l u) h3) (fun vs h' H' U' m' => ∀ p xs, H' p = none → Reps T H' U' m' vs xs → vs.length ≤ sizeLine → Q (.ref p) (upd H' p (.lst xs))) := by
      cases e1 : eSlc gCutN ma ml mh r h with
      | ok vs h1 =>
        rw [e1] at o
        show Out T H U m W (eSlc gCutN ma ml mh r h) _
        rw [e1]
        exact fun H1 U1 m1 g hr1 p xs hp rx hz => o _ U1 m1 p xs (NL.of hr hr1 g hp rx hz)
      | exc _ _ =>
        rw [e1] at o
        show Out T H U m W (eSlc gCutN ma ml mh r h) _
        rw [e1]; exact o
      | stuck => rw [e1] at o; exact (show False from o).elim
    refine tE_then hr er o' fun x H1 U1 m1 h1 v g1 hr1 er1 rx o1 => ?_
    refine part_then hr1 er1 o1 fun l H2 U2 m2 h2 g2 hr2 er2 o2 => ?_
    refine part_then hr2 er2 o2 fun u H3 U3 m3 h3 g3 hr3 er3 o3 => ?_
    obtain ⟨z, ez⟩ := Out.lift_some o3
    rw [ez] at o3
    have o4 := o3 H3 U3 m3 .refl hr3
    unfold gCutN at ez
    split at ez
    · rename_i xs ex
      cases ez
      obtain ⟨a', ys, rfl, s1, q, hz⟩ := view_lst hr3 (hr2.rep g3 (hr1.rep g2 rx)) ex
      exact ⟨a', ys, rfl, .of s1, fun p hp => o4 p _ hp (cut_reps q l u) (Nat.le_trans (cut_len _ _ _) hz)⟩
    · rename_i xs ex
      cases ez
      obtain ⟨a', ys, rfl, s1, q, hz⟩ := scr_view (hr2.rep g3 (hr1.rep g2 rx)) ex
      exact ⟨a', ys, rfl, by rw [ok.k]; exact s1, fun p hp => o4 p _ hp (cut_reps q l u) (Nat.le_trans (cut_len _ _ _) hz)⟩
    · cases ez
end

/-! ### calls of what is built in -/
def eCall (g : PH → List Val → Option Val) (ms : List Ex) : Ex := fun r h => (eArgs ms r h).bind fun vs h1 => lift (g h1 vs) h1
/-- a call that gives a new list -/
def CallN (T : Tab) (X : Cx) (f : Value) (g : PH → List Val → Option (List Val)) : Prop :=
  ∀ {pins : List (Addr × Obj)} {s : Shared} {σ : L2.St} {H : Hp} {U : Addr → Prop} {m : List (Option Addr)} {h : PH} {x : List Val} {xv : List V} {v : List Value} {z : List Val},
    Inv X pins σ H s → HR T H U m h → Reps T H U m x xv → Vals xv v → g h x = some z → wpAny (model X.prog X.w) X.A (call f v) (EP X pins σ fun zv H' => ∃ H1 p xs, zv = .ref p ∧ H' = upd H1 p (.lst xs) ∧ Ext H H1 ∧ H1 p = none ∧ Reps T H1 U m z xs ∧ z.length ≤ sizeLine) X.xe s
def eCallN (g : PH → List Val → Option (List Val)) (ms : List Ex) : Ev → SM (List Val) := fun r h => (eArgs ms r h).bind fun vs h1 => lift (g h1 vs) h1
def rCN (T : Tab) (g : PH → List Val → Option (List Val)) : List V → Hp → VK → Prop := fun xv H Q => ∃ U m h x z, HR T H U m h ∧ Reps T H U m x xv ∧ g h x = some z ∧ ∀ H1 p xs, Ext H H1 → H1 p = none → Reps T H1 U m z xs → z.length ≤ sizeLine → Q (.ref p) (upd H1 p (.lst xs))
section
variable {T : Tab} {X : Cx} {e : Expr} {es : List Expr} {ms : List Ex} {p pos : Pos} {x : Str} {id Ty : String} {g : PH → List Val → Option Val} {gn : PH → List Val → Option (List Val)}
theorem CallN.r {f : Value} (o : CallN T X f gn) : CallR X f (rCN T gn) := fun pins s σ H xv v Q I rx ⟨U, m, h, x, z, hr, r1, e, k⟩ =>
  thn (o I hr r1 rx e) fun w s' ⟨zv, H', I', rv, H1, p, xs, e1, e2, ex, hp, rz, hz⟩ => ⟨zv, H', I', rv, by rw [e1, e2]; exact k H1 p xs ex hp rz hz⟩
theorem call_run {W : WC} {σ : L2.St} {H : Hp} {Q : VK} (q : tE T W (eCall g ms) σ H Q) : tCB (rC T g) (tA T W (eArgs ms)) σ H Q := by
  obtain ⟨U, m, r, h, hr, er, o⟩ := q
  refine tA_then hr er o fun xs H1 U1 m1 h1 vs _ g1 hr1 er1 rxs o1 => ?_
  obtain ⟨z, ez⟩ := Out.lift_some o1
  exact ⟨U1, m1, h1, vs, z, hr1, rxs, ez, fun zv H' ex rz => Out.pure hr1 o1 ex ez zv rz⟩
theorem callN_run {W : WC} {σ : L2.St} {H : Hp} {Q : VK} (q : tN T W (eCallN gn ms) σ H Q) : tCB (rCN T gn) (tA T W (eArgs ms)) σ H Q := by
  obtain ⟨U, m, r, h, hr, er, o⟩ := q
  have o' : Out T H U m W ((eArgs ms r h).bind fun vs h1 => lift (gn h1 vs) h1) (fun vs h' H' U' m' => ∀ p xs, H' p = none → Reps T H' U' m' vs xs → vs.length ≤ sizeLine → Q (.ref p) (upd H' p (.lst xs))) := by
    cases e1 : eCallN gn ms r h with
    | ok vs h1 =>
      rw [e1] at o
      show Out T H U m W (eCallN gn ms r h) _
      rw [e1]
      exact fun H1 U1 m1 g hr1 p xs hp rx hz => o _ U1 m1 p xs (NL.of hr hr1 g hp rx hz)
    | exc _ _ =>
      rw [e1] at o
      show Out T H U m W (eCallN gn ms r h) _
      rw [e1]; exact o
    | stuck => rw [e1] at o; exact (show False from o).elim
  refine tA_then hr er o' fun xs H1 U1 m1 h1 vs _ g1 hr1 er1 rxs o1 => ?_
  obtain ⟨z, ez⟩ := Out.lift_some o1
  refine ⟨U1, m1, h1, vs, z, hr1, rxs, ez, fun H2 p xs ex hp rz hz => ?_⟩
  rw [ez] at o1
  exact o1 H2 U1 m1 (Gr.of_ext ex) (hr1.ext ex) p xs hp rz hz
theorem ce_callB (hc : XOk T X → CallS T X (.builtin id) g) (hg : Gl X x) (hm : X.mg x = none) (hv : bootBuiltins x = some (.builtin id)) (ha : CA T X (e :: es) (eArgs ms)) (hn : x ≠ "__name__" := by decide) (hdb : (x == ("__debug__" : Str)) = false := by decide)
    (he : starEach (e :: es) X.env = (false, eval e X.env) :: starEach es X.env := by rfl) (hpl : (backTo pos (starEach es X.env)).any (·.1) = false := by rfl) : CE T X (.Call (.Name x p) (e :: es) [] pos) (eCall g ms) := fun ok W tk =>
  pe_imp (pe_callB (CallS.r (@hc ok)) hg hm hv (ha ok W tk) hn hdb he hpl) fun σ H Q q => call_run q
theorem ce_callTy (hc : XOk T X → CallS T X (.type Ty) g) (hg : Gl X x) (hm : X.mg x = none) (hv : bootBuiltins x = some (.type Ty)) (ha : CA T X (e :: es) (eArgs ms)) (hn : x ≠ "__name__" := by decide) (hdb : (x == ("__debug__" : Str)) = false := by decide)
    (he : starEach (e :: es) X.env = (false, eval e X.env) :: starEach es X.env := by rfl) (hpl : (backTo pos (starEach es X.env)).any (·.1) = false := by rfl) : CE T X (.Call (.Name x p) (e :: es) [] pos) (eCall g ms) := fun ok W tk =>
  pe_imp (pe_callTy (CallS.r (@hc ok)) hg hm hv (ha ok W tk) hn hdb he hpl) fun σ H Q q => call_run q
theorem cn_callB (hc : XOk T X → CallN T X (.builtin id) gn) (hg : Gl X x) (hm : X.mg x = none) (hv : bootBuiltins x = some (.builtin id)) (ha : CA T X (e :: es) (eArgs ms)) (hn : x ≠ "__name__" := by decide) (hdb : (x == ("__debug__" : Str)) = false := by decide)
    (he : starEach (e :: es) X.env = (false, eval e X.env) :: starEach es X.env := by rfl) (hpl : (backTo pos (starEach es X.env)).any (·.1) = false := by rfl) : CN T X (.Call (.Name x p) (e :: es) [] pos) (eCallN gn ms) := fun ok W tk =>
  pe_imp (pe_callB (CallN.r (@hc ok)) hg hm hv (ha ok W tk) hn hdb he hpl) fun σ H Q q => callN_run q
theorem cn_callTy (hc : XOk T X → CallN T X (.type Ty) gn) (hg : Gl X x) (hm : X.mg x = none) (hv : bootBuiltins x = some (.type Ty)) (ha : CA T X (e :: es) (eArgs ms)) (hn : x ≠ "__name__" := by decide) (hdb : (x == ("__debug__" : Str)) = false := by decide)
    (he : starEach (e :: es) X.env = (false, eval e X.env) :: starEach es X.env := by rfl) (hpl : (backTo pos (starEach es X.env)).any (·.1) = false := by rfl) : CN T X (.Call (.Name x p) (e :: es) [] pos) (eCallN gn ms) := fun ok W tk =>
  pe_imp (pe_callTy (CallN.r (@hc ok)) hg hm hv (ha ok W tk) hn hdb he hpl) fun σ H Q q => callN_run q
end

/-! ### which -/
def gAbs (_ : PH) : List Val → Option Val
  | [.int i] => some (.int (if i < 0 then -i else i))
  | _ => none
def gInt (_ : PH) : List Val → Option Val
  | [.int i] => some (.int i)
  | [.bl k] => some (.int (if k then 1 else 0))
  | _ => none
def gLen (h : PH) : List Val → Option Val
  | [x] => (match view h x with
    | .lst xs => some (.int xs.length)
    | .tup xs => some (.int xs.length)
    | .str z => if z.length ≤ big then some (.int z.length) else none
    | _ => none)
  | _ => none
/-- tuple(a list), tuple(a tuple) -/
def gTuple (h : PH) : List Val → Option Val
  | [x] => (match view h x with
    | .lst xs => some (.tup xs)
    | .tup xs => some (.tup xs)
    | _ => none)
  | _ => none
def gListN (h : PH) : List Val → Option (List Val)
  | [x] => (match view h x with
    | .lst xs => some xs
    | .tup xs => some xs
    | _ => none)
  | _ => none
/-- truth values alone -/
def bls : List Val → Option (List Bool)
  | [] => some []
  | .bl b :: r => (bls r).map (b :: ·)
  | _ => none
def gAll (h : PH) : List Val → Option Val
  | [x] => (match view h x with
    | .lst xs => (bls xs).map fun bs => .bl (bs.all id)
    | _ => none)
  | _ => none
def gAny (h : PH) : List Val → Option Val
  | [x] => (match view h x with
    | .lst xs => (bls xs).map fun bs => .bl (bs.any id)
    | _ => none)
  | _ => none
def intsV : List Val → Option (List Int)
  | [] => some []
  | .int b :: r => (intsV r).map (b :: ·)
  | _ => none
def gSum (h : PH) : List Val → Option Val
  | [x] => (match view h x with
    | .lst xs => (intsV xs).map fun bs => .int bs.sum
    | .tup xs => (intsV xs).map fun bs => .int bs.sum
    | _ => none)
  | _ => none
def gMax2 (_ : PH) : List Val → Option Val
  | [.int i, .int j] => some (.int (if j > i then j else i))
  | _ => none
def gMin2 (_ : PH) : List Val → Option Val
  | [.int i, .int j] => some (.int (if j < i then j else i))
  | _ => none
section
variable {T : Tab} {X : Cx}
theorem bls_reps {H : Hp} {U : Addr → Prop} {m : List (Option Addr)} : ∀ {vs : List Val} {xs : List V} {bs : List Bool}, Reps T H U m vs xs → bls vs = some bs → xs = bs.map V.bl
  | [], _, _, r, e => by cases r; cases e; rfl
  | v :: vs, _, bs, r, e => by
    cases r with
    | cons r1 r2 =>
      cases v <;> simp only [bls] at e <;> try (cases e; done)
      rename_i b
      cases q : bls vs with
      | none => rw [q] at e; cases e
      | some cs =>
        rw [q] at e; cases e
        cases r1
        rw [bls_reps r2 q]; rfl
theorem ints_reps {H : Hp} {U : Addr → Prop} {m : List (Option Addr)} : ∀ {vs : List Val} {xs : List V} {bs : List Int}, Reps T H U m vs xs → intsV vs = some bs → xs = bs.map V.int
  | [], _, _, r, e => by cases r; cases e; rfl
  | v :: vs, _, bs, r, e => by
    cases r with
    | cons r1 r2 =>
      cases v <;> simp only [intsV] at e <;> try (cases e; done)
      rename_i b
      cases q : intsV vs with
      | none => rw [q] at e; cases e
      | some cs =>
        rw [q] at e; cases e
        cases r1
        rw [ints_reps r2 q]; rfl
theorem one_reps {H : Hp} {U : Addr → Prop} {m : List (Option Addr)} {v : Val} {xs : List V} (r : Reps T H U m [v] xs) : ∃ x, xs = [x] ∧ Rep T H U m v x := by
  cases r with
  | cons r1 r2 => cases r2; exact ⟨_, rfl, r1⟩
theorem two_reps {H : Hp} {U : Addr → Prop} {m : List (Option Addr)} {v w : Val} {xs : List V} (r : Reps T H U m [v, w] xs) : ∃ x y, xs = [x, y] ∧ Rep T H U m v x ∧ Rep T H U m w y := by
  cases r with
  | cons r1 r2 => cases r2 with | cons r3 r4 => cases r4; exact ⟨_, _, rfl, r1, r3⟩
theorem abs_S : CallS T X (.builtin "abs") gAbs := CallS.of call_abs fun hr r e k => by
  unfold gAbs at e
  split at e
  · cases e
    obtain ⟨x, rfl, r1⟩ := one_reps r
    cases r1
    exact ⟨_, rfl, k _ _ Ext.rfl' (.int _)⟩
  · cases e
theorem int_S : CallS T X (.type "int") gInt := CallS.of call_int1 fun hr r e k => by
  unfold gInt at e
  split at e
  · cases e
    obtain ⟨x, rfl, r1⟩ := one_reps r
    cases r1
    exact .inl ⟨_, rfl, k _ _ Ext.rfl' (.int _)⟩
  · cases e
    obtain ⟨x, rfl, r1⟩ := one_reps r
    cases r1
    exact .inr ⟨_, rfl, k _ _ Ext.rfl' (.int _)⟩
  · cases e
theorem max2_S (ok : XOk T X) : CallS T X (.builtin "max") gMax2 := CallS.of (call_max2 ok.calm) fun hr r e k => by
  unfold gMax2 at e
  split at e
  · cases e
    obtain ⟨x, y, rfl, r1, r2⟩ := two_reps r
    cases r1; cases r2
    exact ⟨_, _, rfl, k _ _ Ext.rfl' (.int _)⟩
  · cases e
theorem min2_S (ok : XOk T X) : CallS T X (.builtin "min") gMin2 := CallS.of (call_min2 ok.calm) fun hr r e k => by
  unfold gMin2 at e
  split at e
  · cases e
    obtain ⟨x, y, rfl, r1, r2⟩ := two_reps r
    cases r1; cases r2
    exact ⟨_, _, rfl, k _ _ Ext.rfl' (.int _)⟩
  · cases e
theorem tuple_S (ok : XOk T X) : CallS T X (.type "tuple") gTuple := CallS.of (call_tupleB (X := X)) fun hr r e k => by
  unfold gTuple at e
  split at e
  · obtain ⟨x, rfl, r1⟩ := one_reps r
    split at e
    · rename_i xs ex
      cases e
      obtain ⟨a, ys, rfl, s1, q, hz⟩ := view_lst hr r1 ex
      exact ⟨a, ys, rfl, .inl ⟨.of s1, fun l o hl b => k _ _ (ext_upd hl) (rep_newtup hr hl b q hz)⟩⟩
    · rename_i xs ex
      cases e
      obtain ⟨a, ys, rfl, s1, q, hz⟩ := view_tup r1 ex
      exact ⟨a, ys, rfl, .inr ⟨by rw [ok.k]; exact s1.t, k _ _ Ext.rfl' (.tup hz s1 q)⟩⟩
    · cases e
  · cases e
theorem CallN.of {f : Value} {r : List V → Hp → VK → Prop} {g : PH → List Val → Option (List Val)} (o : CallR X f r) (k : ∀ {H : Hp} {U : Addr → Prop} {m : List (Option Addr)} {h : PH} {x : List Val} {xv : List V} {z : List Val} {Q : VK}, HR T H U m h → Reps T H U m x xv → g h x = some z → (∀ H1 p xs, Ext H H1 → H1 p = none → Reps T H1 U m z xs → z.length ≤ sizeLine → Q (.ref p) (upd H1 p (.lst xs))) → r xv H Q) : CallN T X f g :=
  fun I hr r1 rx e => o _ _ _ _ _ _ _ I rx (k hr r1 e fun H1 p xs ex hp rz hz => ⟨H1, p, xs, rfl, rfl, ex, hp, rz, hz⟩)
theorem list_S (ok : XOk T X) : CallN T X (.type "list") gListN := CallN.of (call_list_of (X := X)) fun hr r e k => by
  unfold gListN at e
  split at e
  · obtain ⟨x, rfl, r1⟩ := one_reps r
    split at e
    · rename_i xs ex
      cases e
      obtain ⟨a, ys, rfl, s1, q, hz⟩ := view_lst hr r1 ex
      exact ⟨a, ys, rfl, .inl (.of s1), fun l hl => k _ _ _ Ext.rfl' hl q hz⟩
    · rename_i xs ex
      cases e
      obtain ⟨a, ys, rfl, s1, q, hz⟩ := view_tup r1 ex
      exact ⟨a, ys, rfl, .inr (by rw [ok.k]; exact s1.t), fun l hl => k _ _ _ Ext.rfl' hl q hz⟩
    · cases e
  · cases e
theorem all_S (ok : XOk T X) : CallS T X (.builtin "all") gAll := CallS.of (cr_all ok.calm) fun hr r e k => by
  unfold gAll at e
  split at e
  · obtain ⟨x, rfl, r1⟩ := one_reps r
    split at e
    · rename_i xs ex
      obtain ⟨a, ys, rfl, s1, q, hz⟩ := view_lst hr r1 ex
      cases eb : bls xs with
      | none => rw [eb] at e; cases e
      | some bs =>
        rw [eb] at e; cases e
        exact ⟨a, bs, rfl, by rw [← bls_reps q eb]; exact .of s1, k _ _ Ext.rfl' (.bl _)⟩
    · cases e
  · cases e
theorem any_S (ok : XOk T X) : CallS T X (.builtin "any") gAny := CallS.of (cr_any ok.calm) fun hr r e k => by
  unfold gAny at e
  split at e
  · obtain ⟨x, rfl, r1⟩ := one_reps r
    split at e
    · rename_i xs ex
      obtain ⟨a, ys, rfl, s1, q, hz⟩ := view_lst hr r1 ex
      cases eb : bls xs with
      | none => rw [eb] at e; cases e
      | some bs =>
        rw [eb] at e; cases e
        exact ⟨a, bs, rfl, by rw [← bls_reps q eb]; exact .of s1, k _ _ Ext.rfl' (.bl _)⟩
    · cases e
  · cases e
theorem old_keptT {s : Shared} {l : Addr} {h' : Heap} (hk : ∀ b o, b ∉ [s.heap.objs.size] → (s.heap.push { cls := .type "tuple_iterator", data := .fields #[.ref l, .int 0 0] }).get? b = some o → h'.get? b = some o) :
    ∀ b o, s.heap.get? b = some o → h'.get? b = some o := fun b o e => by
  refine hk b o (fun hm => ?_) (Heap.get?_push_of_some _ e)
  rcases List.mem_cons.mp hm with e1 | hm
  · exact absurd (e1 ▸ Heap.lt_size e) (Nat.lt_irrefl _)
  · cases hm
/-- sum of a tuple of ints -/
theorem sum_tupT {prog : Program} {w : World} {A : Around} {E : Value → Shared → Prop} {s : Shared} {l : Addr} {its : List Value} {ns : List Int} {Q : Value → Shared → Prop} (hh : A.handled = none) (hl : s.heap.IsTuple l its.toArray) (hi : IntsAre its ns)
    (h : ∀ h' tk t', (∀ b o, s.heap.get? b = some o → h'.get? b = some o) → Q (.int ns.sum t') { s with heap := h', toks := tk }) : wpAny (model prog w) A (call (.builtin "sum") [.ref l]) Q E s := by
  obtain ⟨xs, e⟩ := hi.allInts.items
  have hn : numsOf (intItems xs).toList = ns := by rw [← e]; exact hi.numsOf
  rw [nums_intItems] at hn
  rw [e] at hl
  have hlt : l < s.heap.objs.size := by
    obtain ⟨o, ho, _⟩ := hl
    exact Heap.lt_size ho
  refine call_sum_walkG (wpAny_pyIter_tuple hl ?_)
  refine ⟨_, [_, l], [_], _, _, _, numAt xs, rfl, Walks.tuple (A := A.in1) hh _ l (Nat.ne_of_lt hlt) (intItems xs), ⟨⟨_, Heap.get?_push_size _ rfl, rfl, rfl⟩, hl.push _⟩, fun c hc => ?_, (fun _ _ => intItems_at), fun h' tk t' hk => ?_⟩
  · show c < (s.heap.push _).objs.size
    rw [Heap.size_push]
    rcases List.mem_cons.mp hc with rfl | hc
    · exact Nat.lt_succ_self _
    · rcases List.mem_cons.mp hc with rfl | hc
      · exact Nat.lt_succ_of_lt hlt
      · cases hc
  · have := h h' tk t' (old_keptT hk)
    rw [← hn] at this
    have e2 : preSum (numAt xs) (intItems xs).size = (xs.toList.map (·.1)).sum := by
      rw [preSum_eq, List.take_of_length_le (by simp [intItems])]
    rw [e2]; exact this
def rSumB (K : PySem.W.Frag) : List V → Hp → VK → Prop := fun vs H Q => ∃ (a : Addr) (ns : List Int), vs = [V.ref a] ∧ (SqL K H a (ns.map V.int) ∨ SqT K H a (ns.map V.int)) ∧ Q (.int ns.sum) H
theorem cr_sumB {X : Cx} (hc : X.calm = true) : CallR X (.builtin "sum") (rSumB X.K) := by
  intro pins s σ H vs us Q I r h
  obtain ⟨a, ns, rfl, hs | hs, q⟩ := h
  · exact cr_sum hc pins s σ H _ us Q I r ⟨a, ns, rfl, hs, q⟩
  · obtain ⟨its, rv, hl, _⟩ := I.tuple hs
    rw [Vals.ref1 r]
    exact sum_tupT (I.ok.hd hc) hl rv.ints fun h' tk t' hk => ⟨.int _, H, I.kept hk, ⟨_, rfl⟩, q⟩
theorem sum_S (ok : XOk T X) : CallS T X (.builtin "sum") gSum := CallS.of (cr_sumB ok.calm) fun hr r e k => by
  unfold gSum at e
  split at e
  · obtain ⟨x, rfl, r1⟩ := one_reps r
    split at e
    · rename_i xs ex
      obtain ⟨a, ys, rfl, s1, q, hz⟩ := view_lst hr r1 ex
      cases eb : intsV xs with
      | none => rw [eb] at e; cases e
      | some bs =>
        rw [eb] at e; cases e
        exact ⟨a, bs, rfl, .inl (by rw [← ints_reps q eb]; exact .of s1), k _ _ Ext.rfl' (.int _)⟩
    · rename_i xs ex
      obtain ⟨a, ys, rfl, s1, q, hz⟩ := view_tup r1 ex
      cases eb : intsV xs with
      | none => rw [eb] at e; cases e
      | some bs =>
        rw [eb] at e; cases e
        exact ⟨a, bs, rfl, .inr (by rw [← ints_reps q eb, ok.k]; exact s1.t), k _ _ Ext.rfl' (.int _)⟩
    · cases e
  · cases e
theorem len_S (ok : XOk T X) : CallS T X (.builtin "len") gLen := CallS.of (call_len (X := X)) fun hr r e k => by
  unfold gLen at e
  split at e
  · obtain ⟨x, rfl, r1⟩ := one_reps r
    split at e
    · rename_i xs ex
      cases e
      obtain ⟨a, ys, rfl, s1, q, hz⟩ := view_lst hr r1 ex
      exact ⟨_, ys.length, rfl, .inl ⟨ys, .of s1, rfl⟩, by rw [q.length] at k; exact k _ _ Ext.rfl' (.int _)⟩
    · rename_i xs ex
      cases e
      obtain ⟨a, ys, rfl, s1, q, hz⟩ := view_tup r1 ex
      exact ⟨_, ys.length, rfl, .inr ⟨ys, by rw [ok.k]; exact s1.t, rfl⟩, by rw [q.length] at k; exact k _ _ Ext.rfl' (.int _)⟩
    · rename_i z ez
      split at e
      · rename_i hz
        cases e
        obtain rfl := view_eq ez (fun _ z => nomatch z)
        cases r1
        exact ⟨_, z.length, rfl, ⟨big_line hz, rfl⟩, k _ _ Ext.rfl' (.int _)⟩
      · cases e
    · cases e
  · cases e
/-- either -/
def orG (g g' : PH → List Val → Option Val) : PH → List Val → Option Val := fun h xs => match g h xs with
  | some z => some z
  | none => g' h xs
theorem CallS.or {f : Value} {g g' : PH → List Val → Option Val} (a : CallS T X f g) (b : CallS T X f g') : CallS T X f (orG g g') := fun I hr r rx e => by
  unfold orG at e
  split at e
  · rename_i e1
    cases e
    exact a I hr r rx e1
  · exact b I hr r rx e
end
end SW

namespace SW
open PySem PySem.Spec PyProof.Rows L2

/-! ### a located list given up: from now on it is a value -/
def eMove (i : Nat) : Ex := fun r h => match r.getD i none with
  | some (.ref l) => (match h[l]? with | some (.lst xs) => .ok (.lst xs) (h.set l .non) | _ => .stuck)
  | some v => .ok v h
  | none => .stuck
section
variable {T : Tab} {X : Cx} {pos : Pos}
theorem HR.move {H : Hp} {U : Addr → Prop} {m : List (Option Addr)} {h : PH} (x : HR T H U m h) {l : Nat} {a : Addr} (e : m[l]? = some (some a)) : Gr H U m H (fun b => U b ∧ b ≠ a) (m.set l none) ∧ HR T H (fun b => U b ∧ b ≠ a) (m.set l none) (h.set l .non) ∧ Gw H U m H (fun b => U b ∧ b ≠ a) (m.set l none) := by
  have old : ∀ (k : Nat) (b : Addr), (m.set l none)[k]? = some (some b) → m[k]? = some (some b) ∧ k ≠ l := fun k b q => by
    by_cases hk : l = k
    · subst hk
      rw [List.getElem?_set, if_pos rfl] at q
      split at q <;> cases q
    · rw [List.getElem?_set_ne hk] at q
      exact ⟨q, fun z => hk z.symm⟩
  have gw : Gw H U m H (fun b => U b ∧ b ≠ a) (m.set l none) := ⟨fun _ _ _ e => e, fun _ z => .inl z.1, by simp, fun k b _ q => (old k b q).1⟩
  refine ⟨⟨fun _ _ _ e => e, fun _ z => .inl z.1, ⟨by simp, fun k b _ q => (old k b q).1, fun k b hk q => ?_⟩, fun _ z => z, fun b h1 _ h3 => ⟨h1, fun z => h3 ⟨l, by rw [z]; exact e⟩⟩⟩, ⟨by simp [x.len], fun k k' b q q' => x.nd k k' b (old k b q).1 (old k' b q').1, fun b ⟨k, q⟩ => ⟨x.sub b ⟨k, (old k b q).1⟩, fun z => ?_⟩, fun b hb => x.us b hb.1, fun k w q => ?_⟩, gw⟩
  · have := (List.getElem?_eq_some_iff.mp q).1
    simp at this; omega
  · subst z
    exact (old k b q).2 (x.nd _ _ _ (old k b q).1 e)
  · by_cases hk : l = k
    · subst hk
      rw [List.getElem?_set] at q
      split at q
      · rename_i hl
        split at q
        · cases q
          exact .inl ⟨by rw [List.getElem?_set]; rw [if_pos rfl, if_pos (List.getElem?_eq_some_iff.mp e).1], rfl⟩
        · cases q
      · rename_i z; exact absurd rfl z
    · rw [List.getElem?_set_ne hk] at q
      rcases x.obj k w q with ⟨e1, e2⟩ | ⟨b, e1, e2⟩
      · exact .inl ⟨by rw [List.getElem?_set_ne hk]; exact e1, e2⟩
      · exact .inr ⟨b, by rw [List.getElem?_set_ne hk]; exact e1, e2.gw x.us gw rfl⟩
theorem ce_move (i : Nat) {x : Str} (hN : X.N[i]? = some x := by rfl) (hv : Vis X.env.scope x := by first | exact Or.inl rfl | exact Or.inr (Or.inl rfl) | exact Or.inr (Or.inr rfl)) (hd : (x == ("__debug__" : Str)) = false := by decide)
    (hcd : (x == ("__classdict__" : Str)) = false := by decide) : CE T X (.Name x pos) (eMove i) := fun _ W tk => pe_imp (pe_var hN hv hd hcd) fun σ H Q ⟨U, m, r, h, hr, er, o⟩ => by
  unfold eMove at o
  have get : ∀ v, r.getD i none = some v → ∃ x, σ[i]? = some (some x) ∧ Rep T H U m v x := fun v e => by
    rw [List.getD_eq_getElem?_getD] at e
    cases q : r[i]? with
    | none => rw [q] at e; cases e
    | some z => rw [q] at e; exact er.val i v (by rw [q]; exact congrArg some e)
  split at o
  · rename_i l el
    obtain ⟨x, e2, rx⟩ := get _ el
    split at o
    · rename_i xs eh
      rcases hr.obj l _ eh with ⟨_, e0⟩ | ⟨a, e1, ob⟩
      · cases e0
      · cases rx with
        | ref hl e =>
          obtain rfl := e a e1
          obtain ⟨ys, ey, rs, hz⟩ := ob
          obtain ⟨g, hr', gw⟩ := hr.move e1
          exact ⟨_, e2, o H _ _ g hr' _ (.lst hz ey (fun z => z.2 rfl) (Reps.gr gw hr.us rs))⟩
    · exact (show False from o).elim
  · rename_i v ev
    obtain ⟨x, e2, rx⟩ := get _ ev
    exact ⟨x, e2, o H U m .refl hr x rx⟩
  · exact (show False from o).elim
end

/-! ### isinstance of built-in types -/
inductive Ty where
  | non | bool | int | str | tup | lst | dct
def Ty.name : Ty → String
  | .non => "NoneType" | .bool => "bool" | .int => "int" | .str => "str" | .tup => "tuple" | .lst => "list" | .dct => "dict"
def isiB : Ty → Ty → Bool
  | .non, .non => true | .bool, .bool => true | .bool, .int => true | .int, .int => true | .str, .str => true | .tup, .tup => true | .lst, .lst => true | .dct, .dct => true
  | _, _ => false
theorem kit_isi : ∀ t c : Ty, c = .non ∨ kitB t.name c.name = some (isiB t c) := by
  intro t c
  cases c
  · exact .inl rfl
  all_goals exact .inr (by cases t <;> decide +kernel)
def tag (h : PH) (v : Val) : Option Ty := match view h v with
  | .non => some .non
  | .bl _ => some .bool
  | .int _ => some .int
  | .str _ => some .str
  | .tup _ => some .tup
  | .lst _ => some .lst
  | .dct _ _ => some .dct
  | _ => none
def gIsi (c : Ty) (h : PH) (v : Val) : Option Val := (tag h v).map fun t => .bl (isiB t c)
def gIsi2 (c d : Ty) (h : PH) (v : Val) : Option Val := (tag h v).map fun t => .bl (isiB t c || isiB t d)
section
variable {T : Tab} {X : Cx} {a : Expr} {ma : Ex} {pos p p1 p2 p3 : Pos}
theorem tag_ty {H : Hp} {U : Addr → Prop} {m : List (Option Addr)} {h : PH} {v : Val} {x : V} {t : Ty} (hr : HR T H U m h) (r : Rep T H U m v x) (e : tag h v = some t) : TyX T.K H x (.type t.name) := by
  have atom : ∀ {z}, view h v = z → (∀ ys, z ≠ .lst ys) → (∀ ks vs, z ≠ .dct ks vs) → Rep T H U m z x := fun {z} e1 h1 h2 => by
    have := view_eq e1 h1 h2
    subst this; exact r
  unfold tag at e
  cases q : view h v with
  | non => rw [q] at e; cases e; have r' := atom q (fun _ z => nomatch z) (fun _ _ z => nomatch z); cases r'; exact .base .non
  | bl b => rw [q] at e; cases e; have r' := atom q (fun _ z => nomatch z) (fun _ _ z => nomatch z); cases r'; exact .base (.bl _)
  | int b => rw [q] at e; cases e; have r' := atom q (fun _ z => nomatch z) (fun _ _ z => nomatch z); cases r'; exact .base (.int _)
  | str b => rw [q] at e; cases e; have r' := atom q (fun _ z => nomatch z) (fun _ _ z => nomatch z); cases r'; exact .base (.str _)
  | tup xs =>
    rw [q] at e; cases e
    obtain ⟨b, ys, rfl, s1, _, _⟩ := view_tup r q
    rcases s1.t with (s1 | ⟨o, s1⟩) | ⟨o, its, n, s1, s2, _⟩
    · exact .base (.tup s1)
    · exact .fTuple s1
    · exact .kTuple s1 s2
  | lst xs =>
    rw [q] at e; cases e
    obtain ⟨b, ys, rfl, s1, _, _⟩ := view_lst hr r q
    exact .base (.lst s1)
  | dct ks vs =>
    rw [q] at e; cases e
    cases v with
    | dct ks' vs' =>
      cases r with
      | dK h1 _ _ _ => exact .base (.dK h1)
      | dT h1 _ _ _ => exact .base (.dT h1)
    | ref l =>
      cases ql : h[l]? with
      | none => simp [view, ql] at q
      | some o =>
        cases r with
        | ref hl er =>
          rcases hr.obj l o ql with ⟨_, e0⟩ | ⟨b, e1, ob⟩
          · subst e0; simp [view, ql] at q
          · obtain rfl := er b e1
            cases o with
            | dct ks' vs' =>
              rcases ob with ⟨kvs, h1, _⟩ | ⟨kvs, h1, _⟩
              · exact .base (.dK h1)
              · exact .base (.dT h1)
            | _ => simp [view, ql] at q
    | _ => simp [view] at q
  | ins c fs => rw [q] at e; cases e
  | ref l => rw [q] at e; cases e
theorem ce_isi (c : Ty) (hc : c ≠ .non) {x xT : Str} (ha : CE T X a ma) (hg : Gl X x) (hm : X.mg x = none) (hv : bootBuiltins x = some (.builtin "isinstance")) (hgT : Gl X xT) (hmT : X.mg xT = none) (hvT : bootBuiltins xT = some (.type c.name))
    (hn : x ≠ "__name__" := by decide) (hdb : (x == ("__debug__" : Str)) = false := by decide) (hnT : xT ≠ "__name__" := by decide) (hdT : (xT == ("__debug__" : Str)) = false := by decide)
    (he : starEach [a, .Name xT p1] X.env = (false, eval a X.env) :: starEach [.Name xT p1] X.env := by rfl) (he2 : starEach [.Name xT p1] X.env = (false, eval (.Name xT p1) X.env) :: starEach [] X.env := by rfl) (hpl : (backTo pos (starEach [.Name xT p1] X.env)).any (·.1) = false := by rfl) :
    CE T X (.Call (.Name x p) [a, .Name xT p1] [] pos) (eUn (gIsi c) ma) := fun ok W tk =>
  pe_imp (pe_callB (call_isi (X := X)) hg hm hv (pa_cons (ha ok W tk) (pa_cons (pe_bltn (v := .ty c.name) hgT hmT hvT rfl hnT hdT) pa_nil he2) he) hn hdb he hpl) fun σ H Q ⟨U, m, r, h, hr, er, o⟩ => by
    refine tE_then hr er o fun y H1 U1 m1 h1 v g1 hr1 er1 rx o1 => ?_
    obtain ⟨z, ez⟩ := Out.lift_some o1
    have e0 := ez
    unfold gIsi at ez
    cases et : tag h1 v with
    | none => rw [et] at ez; cases ez
    | some t =>
      rw [et] at ez; cases ez
      refine ⟨y, .ty c.name, .type t.name, .type c.name, isiB t c, rfl, .ty _, by rw [ok.k]; exact tag_ty hr1 rx et, ?_, Out.pure hr1 o1 Ext.rfl' e0 _ (.bl _)⟩
      exact kit_ty ((kit_isi t c).resolve_left hc)
theorem kitAny2 {K : PySem.W.Frag} {t c d : Value} {b b' : Bool} (h : PySem.W.kitOne K t c = some b) (h' : PySem.W.kitOne K t d = some b') : PySem.W.kitAny K t [c, d] = some (b || b') := by
  refine kitAny_cons h (fun e => ?_) (fun e => by rw [e]; rfl)
  subst e
  exact kitAny_cons h' (fun e => by subst e; rfl) (fun e => by rw [e]; rfl)
theorem ce_isi2 (c d : Ty) (hc : c ≠ .non) (hd : d ≠ .non) {x xT xS : Str} {kk : Nat} (ha : CE T X a ma) (hg : Gl X x) (hm : X.mg x = none) (hv : bootBuiltins x = some (.builtin "isinstance")) (hgT : Gl X xT) (hmT : X.mg xT = none) (hvT : bootBuiltins xT = some (.type c.name))
    (hgS : Gl X xS) (hmS : X.mg xS = none) (hvS : bootBuiltins xS = some (.type d.name))
    (hn : x ≠ "__name__" := by decide) (hdb : (x == ("__debug__" : Str)) = false := by decide) (hnT : xT ≠ "__name__" := by decide) (hdT : (xT == ("__debug__" : Str)) = false := by decide) (hnS : xS ≠ "__name__" := by decide) (hdS : (xS == ("__debug__" : Str)) = false := by decide)
    (he : starEach [a, .Tuple [.Name xT p1, .Name xS p2] kk p3] X.env = (false, eval a X.env) :: starEach [.Tuple [.Name xT p1, .Name xS p2] kk p3] X.env := by rfl) (he2 : starEach [.Tuple [.Name xT p1, .Name xS p2] kk p3] X.env = (false, eval (.Tuple [.Name xT p1, .Name xS p2] kk p3) X.env) :: starEach [] X.env := by rfl)
    (he3 : starEach [.Name xT p1, .Name xS p2] X.env = (false, eval (.Name xT p1) X.env) :: starEach [.Name xS p2] X.env := by rfl) (he4 : starEach [.Name xS p2] X.env = (false, eval (.Name xS p2) X.env) :: starEach [] X.env := by rfl)
    (hpl : (backTo pos (starEach [.Tuple [.Name xT p1, .Name xS p2] kk p3] X.env)).any (·.1) = false := by rfl) :
    CE T X (.Call (.Name x p) [a, .Tuple [.Name xT p1, .Name xS p2] kk p3] [] pos) (eUn (gIsi2 c d) ma) := fun ok W tk =>
  pe_imp (pe_callB (call_isiT (X := X)) hg hm hv (pa_cons (ha ok W tk) (pa_cons (pe_tup (pa_cons (pe_bltn (v := .ty c.name) hgT hmT hvT rfl hnT hdT) (pa_cons (pe_bltn (v := .ty d.name) hgS hmS hvS rfl hnS hdS) pa_nil he4) he3)) pa_nil he2) he) hn hdb he hpl) fun σ H Q ⟨U, m, r, h, hr, er, o⟩ => by
    refine tE_then hr er o fun y H1 U1 m1 h1 v g1 hr1 er1 rx o1 => ?_
    obtain ⟨z, ez⟩ := Out.lift_some o1
    have e0 := ez
    unfold gIsi2 at ez
    cases et : tag h1 v with
    | none => rw [et] at ez; cases ez
    | some t =>
      rw [et] at ez; cases ez
      refine ⟨by show 2 ≤ sizeLine; rw [sizeLine_eq]; omega, fun q hq => ?_⟩
      have ex : Ext H1 (upd H1 q (.tup [.ty c.name, .ty d.name])) := ext_upd hq
      refine ⟨y, q, [.ty c.name, .ty d.name], .type t.name, [.type c.name, .type d.name], isiB t c || isiB t d, rfl, upd_same, .cons (.ty _) (.cons (.ty _) .nil), by rw [ok.k]; exact tag_ty (hr1.ext ex) (hr1.rep_ext ex rx) et, ?_, Out.pure hr1 o1 ex e0 _ (.bl _)⟩
      exact kitAny2 (kit_ty ((kit_isi t c).resolve_left hc)) (kit_ty ((kit_isi t d).resolve_left hd))
end

/-! ### methods of located lists -/
/-- o.m(..) where o is a located list: g gives its new items and the value -/
def eMet (g : PH → List Val → List Val → Option (List Val × Val)) (o : Ex) (ms : List Ex) : Ex := fun r h => (o r h).bind fun x h1 => match x with
  | .ref l => (match h1[l]? with
    | some (.lst _) => (eArgs ms r h1).bind fun vs h2 => (match h2[l]? with
      | some (.lst xs) => (match g h2 xs vs with
        | some (ys, z) => .ok z (h2.set l (.lst ys))
        | none => .stuck)
      | _ => .stuck)
    | _ => .stuck)
  | _ => .stuck
/-- a rule for such a method is met by g -/
def MetW (T : Tab) (r : V → List V → Hp → VK → Prop) (g : PH → List Val → List Val → Option (List Val × Val)) : Prop :=
  ∀ {H : Hp} {U : Addr → Prop} {m : List (Option Addr)} {h : PH} {a : Addr} {xs vs ys : List Val} {xv vv : List V} {z : Val} {Q : VK}, HR T H U m h → Lv m a → H a = some (.lst xv) → Reps T H U m xs xv → xs.length ≤ sizeLine → Reps T H U m vs vv → g h xs vs = some (ys, z) →
    (∀ yv zv, Reps T H U m ys yv → ys.length ≤ sizeLine → Rep T H U m z zv → Q zv (upd H a (.lst yv))) → r (.ref a) vv H Q
section
variable {T : Tab} {X : Cx} {o e : Expr} {es : List Expr} {mo : Ex} {ms : List Ex} {name : Str} {apos cpos : Pos} {id : String} {r : V → List V → Hp → VK → Prop} {g : PH → List Val → List Val → Option (List Val × Val)}
theorem met_fin {W : WC} {H : Hp} {U : Addr → Prop} {m : List (Option Addr)} {h : PH} {l : Nat} {xs vs : List Val} {vv : List V} {a : Addr} {Q : VK} (hg : MetW T r g) (hr : HR T H U m h) (e1 : m[l]? = some (some a)) (ob : h[l]? = some (.lst xs)) (rv : Reps T H U m vs vv)
    (o : Out T H U m W (match g h xs vs with | some (ys, z) => Res.ok z (h.set l (.lst ys)) | none => .stuck) fun v _ H' U' m' => ∀ x, Rep T H' U' m' v x → Q x H') : r (.ref a) vv H Q := by
  have lv : Lv m a := ⟨l, e1⟩
  rcases hr.obj l _ ob with ⟨_, e0⟩ | ⟨b, e2, xv, ea, rs, hz⟩
  · cases e0
  · rw [e1] at e2; cases e2
    cases q : g h xs vs with
    | none => rw [q] at o; exact (show False from o).elim
    | some yz =>
      obtain ⟨ys, z⟩ := yz
      rw [q] at o
      refine hg hr lv ea rs hz rv q fun yv zv ry hy rz => ?_
      have gr : Gr H U m (upd H a (.lst yv)) U m := Gr.write lv
      exact o _ U m gr (hr.write e1 ⟨yv, upd_same, hr.reps gr ry, hy⟩) zv (hr.rep gr rz)
theorem ce_met (hg : MetW T r g) (hm : MtR X id r) (slot : Slot "list" name id) (hty : typeOf (.builtin id) = pure (.type "method_descriptor")) (ho : CE T X o mo) (ha : CA T X (e :: es) (eArgs ms))
    (hbase : attributeBase o name X.env (eval o X.env) = eval o X.env := by rfl)
    (hfew : ((backTo cpos (starEach (e :: es) X.env)).all (fun x => !x.1) && (backToKw cpos (keywordEach [] X.env)).all (fun x => x.1.isSome)
      && decide ((e :: es).length + ([] : List Keyword).length + (if ([] : List Keyword).isEmpty then 0 else 1) < 30)) = true := by rfl)
    (hline : (apos.endLine == cpos.line) = true := by rfl) (hs : starEach (e :: es) X.env = (false, eval e X.env) :: starEach es X.env := by rfl) (hplain : (backTo cpos (starEach es X.env)).any (·.1) = false := by rfl) :
    CE T X (.Call (.Attribute o name apos) (e :: es) [] cpos) (eMet g mo ms) := fun ok W tk =>
  pe_imp (pe_bm PySem.F.plainAttrs_list slot hty hm (ho ok W tk) (ha ok W tk) hbase hfew hline hs hplain) fun σ H Q ⟨U, m, rr, h, hr, er, oo⟩ => by
    refine tE_then hr er oo fun x H1 U1 m1 h1 v g1 hr1 er1 rx o1 => ?_
    split at o1
    · rename_i l
      split at o1
      · rename_i xs0 ex
        obtain ⟨a, e1, rfl⟩ := rep_alive hr1 rx (by simp [alive, ex])
        have tl : tyV X.K "list" (.ref a) H1 := by
          rcases hr1.obj l _ ex with ⟨_, e0⟩ | ⟨b, e2, xv, ea, _, _⟩
          · cases e0
          · rw [e1] at e2; cases e2
            exact .inl ⟨rfl, _, .of ea⟩
        refine ⟨tl, tA_then hr1 er1 o1 fun vv H2 U2 m2 h2 vs _ g2 hr2 er2 rv o2 => ?_⟩
        split at o2
        · rename_i xs ex2
          have rx2 := hr1.rep g2 rx
          obtain ⟨a', e1', ea'⟩ := rep_alive hr2 rx2 (by simp [alive, ex2])
          cases ea'
          exact met_fin hg hr2 e1' ex2 rv o2
        · exact (show False from o2).elim
      · exact (show False from o1).elim
    · exact (show False from o1).elim
theorem ce_met0 (hg : MetW T r g) (hm : MtR X id r) (slot : Slot "list" name id) (hty : typeOf (.builtin id) = pure (.type "method_descriptor")) (ho : CE T X o mo)
    (hbase : attributeBase o name X.env (eval o X.env) = eval o X.env := by rfl) (hline : (apos.endLine == cpos.line) = true := by rfl) : CE T X (.Call (.Attribute o name apos) [] [] cpos) (eMet g mo []) := fun ok W tk =>
  pe_imp (pe_bm0 PySem.F.plainAttrs_list slot hty hm (ho ok W tk) hbase hline) fun σ H Q ⟨U, m, rr, h, hr, er, oo⟩ => by
    refine tE_then hr er oo fun x H1 U1 m1 h1 v g1 hr1 er1 rx o1 => ?_
    split at o1
    · rename_i l
      split at o1
      · rename_i xs0 ex
        obtain ⟨a, e1, rfl⟩ := rep_alive hr1 rx (by simp [alive, ex])
        have tl : tyV X.K "list" (.ref a) H1 := by
          rcases hr1.obj l _ ex with ⟨_, e0⟩ | ⟨b, e2, xv, ea, _, _⟩
          · cases e0
          · rw [e1] at e2; cases e2
            exact .inl ⟨rfl, _, .of ea⟩
        refine ⟨tl, ?_⟩
        have o2 : Out T H1 U1 m1 W (match h1[l]? with
          | some (.lst xs) => (match g h1 xs [] with
            | some (ys, z) => Res.ok z (h1.set l (.lst ys))
            | none => .stuck)
          | _ => .stuck) fun v _ H' U' m' => ∀ x, Rep T H' U' m' v x → Q x H' := o1
        rw [ex] at o2
        exact met_fin hg hr1 e1 ex .nil o2
      · exact (show False from o1).elim
    · exact (show False from o1).elim
end
def gAppend (_ : PH) (xs : List Val) : List Val → Option (List Val × Val)
  | [v] => if xs.length < big then some (xs ++ [v], .non) else none
  | _ => none
def gExtend (h : PH) (xs : List Val) : List Val → Option (List Val × Val)
  | [v] => (match view h v with
    | .lst ys => if xs.length + ys.length ≤ big then some (xs ++ ys, .non) else none
    | _ => none)
  | _ => none
def gPop (_ : PH) (xs : List Val) : List Val → Option (List Val × Val)
  | [] => (match xs.getLast? with
    | some v => some (xs.dropLast, v)
    | none => none)
  | _ => none
def gPopAt (_ : PH) (xs : List Val) : List Val → Option (List Val × Val)
  | [.int i] => if decide (0 ≤ i) && decide (i < 1000000) then (match xs[i.toNat]? with
    | some v => some (xs.eraseIdx i.toNat, v)
    | none => none) else none
  | _ => none
section
variable {T : Tab}
theorem append_W : MetW T rAppend gAppend := by
  intro H U m h a xs vs ys xv vv z Q hr lv ea rs hz0 rv e k
  unfold gAppend at e
  split at e
  · split at e
    · rename_i hz
      cases e
      obtain ⟨x, rfl, rx⟩ := one_reps rv
      refine ⟨a, xv, x, rfl, rfl, ea, ?_, k _ _ (rs.append (.cons rx .nil)) (by rw [List.length_append]; exact big_line hz) .non⟩
      rw [← rs.length]
      exact Nat.lt_of_lt_of_le hz (big_line (Nat.le_refl _))
    · cases e
  · cases e
theorem extend_W : MetW T rExtend gExtend := by
  intro H U m h a xs vs ys xv vv z Q hr lv ea rs hz0 rv e k
  unfold gExtend at e
  split at e
  · obtain ⟨x, rfl, rx⟩ := one_reps rv
    split at e
    · rename_i ws ew
      split at e
      · rename_i hz
        cases e
        obtain ⟨b, zs, rfl, eb, rz, _⟩ := view_lst hr rx ew
        refine ⟨a, b, xv, zs, rfl, rfl, ea, eb, ?_, k _ _ (rs.append rz) (by rw [List.length_append]; exact big_line hz) .non⟩
        rw [← rs.length, ← rz.length]
        exact big_line hz
      · cases e
    · cases e
  · cases e
theorem Reps.dropLast {H : Hp} {U : Addr → Prop} {m : List (Option Addr)} {vs : List Val} {xs : List V} (r : Reps T H U m vs xs) : Reps T H U m vs.dropLast xs.dropLast := by
  rw [List.dropLast_eq_take, List.dropLast_eq_take, r.length]
  exact r.take _
theorem pop_W : MetW T rPop gPop := by
  intro H U m h a xs vs ys xv vv z Q hr lv ea rs hz0 rv e k
  unfold gPop at e
  split at e
  · cases rv
    split at e
    · rename_i v ev
      cases e
      rw [List.getLast?_eq_getElem?] at ev
      obtain ⟨y, ey, ry⟩ := rs.get ev
      exact ⟨a, xv, y, rfl, rfl, ea, by rw [← rs.length]; exact ey, k _ _ rs.dropLast (by rw [List.length_dropLast]; omega) ry⟩
    · cases e
  · cases e
theorem popAt_W : MetW T rPopAt gPopAt := by
  intro H U m h a xs vs ys xv vv z Q hr lv ea rs hz0 rv e k
  unfold gPopAt at e
  split at e
  · rename_i i
    split at e
    · rename_i hc
      simp only [Bool.and_eq_true, decide_eq_true_eq] at hc
      split at e
      · rename_i v ev
        cases e
        obtain ⟨x, rfl, rx⟩ := one_reps rv
        cases rx
        obtain ⟨y, ey, ry⟩ := rs.get ev
        have hl := (List.getElem?_eq_some_iff.mp ey).1
        have es : seqIndex? i xv.length = some i.toNat := PySem.StrLaws.seqIndex_nonneg hc.1 (by omega)
        exact ⟨a, xv, i, i.toNat, y, rfl, rfl, ea, by omega, by omega, es, ey, k _ _ (rs.eraseIdx _) (Nat.le_trans (len_erase _ _) hz0) ry⟩
      · cases e
    · cases e
  · cases e
end
end SW

namespace SW
open PySem PySem.Spec PyProof.Rows L2

/-! ### targets -/
abbrev TGm := Val → Ev → SM Ev
abbrev TGsm := List Val → Ev → SM Ev
/-- but for the slots at vs the two are one -/
def SameBut (vs : List Nat) (σ σ' : L2.St) : Prop := σ'.length = σ.length ∧ ∀ j, j ∉ vs → σ'[j]? = σ[j]?
theorem SameBut.refl {vs : List Nat} {σ : L2.St} : SameBut vs σ σ := ⟨rfl, fun _ _ => rfl⟩
theorem SameBut.trans {vs ws : List Nat} {σ σ' σ2 : L2.St} (a : SameBut vs σ σ') (b : SameBut ws σ' σ2) : SameBut (vs ++ ws) σ σ2 :=
  ⟨b.1.trans a.1, fun j hj => (b.2 j fun z => hj (List.mem_append_right _ z)).trans (a.2 j fun z => hj (List.mem_append_left _ z))⟩
theorem SameBut.set {σ : L2.St} {i : Nat} {x : Option V} : SameBut [i] σ (σ.set i x) := ⟨by simp, fun j hj => by rw [List.getElem?_set_ne]; exact fun z => hj (by simp [z])⟩
theorem SameBut.mono {vs ws : List Nat} {σ σ' : L2.St} (a : SameBut vs σ σ') (h : ∀ i ∈ vs, i ∈ ws) : SameBut ws σ σ' := ⟨a.1, fun j hj => a.2 j fun z => hj (h j z)⟩
theorem wipe_in {σ : L2.St} {i : Nat} : ∀ {vs : List Nat}, i ∈ vs → (wipe σ vs)[i]? = if i < σ.length then some none else none
  | v :: vs, h => by
    unfold wipe
    by_cases hi : v = i
    · subst hi
      rw [List.getElem?_set, if_pos rfl, wipe_length]
    · rw [List.getElem?_set_ne hi]
      rcases List.mem_cons.mp h with z | z
      · exact absurd z.symm hi
      · exact wipe_in z
theorem wipe_same {vs : List Nat} {σ σ' : L2.St} (a : SameBut vs σ σ') : wipe σ' vs = wipe σ vs := by
  apply List.ext_getElem?
  intro i
  by_cases hi : i ∈ vs
  · rw [wipe_in hi, wipe_in hi, a.1]
  · rw [wipe_out hi, wipe_out hi, a.2 i hi]
def tG (T : Tab) (W : WC) (g : TGm) (vs : List Nat) : TG := fun x σ H Q => ∃ U m r h v, HR T H U m h ∧ ER T H U m r σ ∧ Rep T H U m v x ∧ Out T H U m W (g v r h) fun r' _ H' U' m' => ∀ σ', ER T H' U' m' r' σ' → SameBut vs σ σ' → Q σ' H'
def tGs (T : Tab) (W : WC) (g : TGsm) (vs : List Nat) : TGs := fun xs σ H Q => ∃ U m r h v, HR T H U m h ∧ ER T H U m r σ ∧ Reps T H U m v xs ∧ Out T H U m W (g v r h) fun r' _ H' U' m' => ∀ σ', ER T H' U' m' r' σ' → SameBut vs σ σ' → Q σ' H'
def CG (T : Tab) (X : Cx) (e : Expr) (g : TGm) (vs : List Nat) : Prop := XOk T X → ∀ W, Tk X W → PG X e (tG T W g vs)
def CGs (T : Tab) (X : Cx) (es : List Expr) (g : TGsm) (vs : List Nat) : Prop := XOk T X → ∀ W, Tk X W → PGs X es (tGs T W g vs)
theorem pgs_imp {X : Cx} {e : List Expr} {t t' : TGs} (p : PGs X e t) (h : ∀ v σ H Q, t' v σ H Q → t v σ H Q) : PGs X e t' := ⟨fun pins s σ H v u Q I r q => p.run pins s σ H v u Q I r (h v σ H Q q)⟩
def gSet (i : Nat) : TGm := fun v r h => .ok (r.set i (some v)) h
def gsNil : TGsm := fun vs r h => match vs with | [] => .ok r h | _ => .stuck
def gsCons (g : TGm) (gs : TGsm) : TGsm := fun vs r h => match vs with | v :: rest => (g v r h).bind fun r1 h1 => gs rest r1 h1 | [] => .stuck
def gUnp (n : Nat) (gs : TGsm) : TGm := fun v r h => match v with
  | .tup xs => if xs.length = n then gs xs r h else .stuck
  | .ins 1 xs => if xs.length = n then gs xs r h else .stuck
  | _ => .stuck
section
variable {T : Tab} {X : Cx} {pos : Pos} {e : Expr} {es : List Expr} {g : TGm} {gs : TGsm} {vs ws : List Nat}
theorem cg_name (i : Nat) {x : Str} (hi : X.N[i]? = some x := by rfl) (hx : Loc X.env.scope x := by first | exact Or.inl rfl | exact Or.inr rfl) (hf : X.fn x = true ∨ X.env.scope.names.lookup x = some .local := by first | exact .inl rfl | exact .inr rfl) : CG T X (.Name x pos) (gSet i) [i] := fun ok W tk =>
  pg_imp (pg_name ok.nd hi hx hf) fun x σ H Q ⟨U, m, r, h, v, hr, er, rv, o⟩ => o H U m .refl hr _ (er.set rv) .set
theorem cgs_nil : CGs T X [] gsNil [] := fun ok W tk => pgs_imp pgs_nil fun xs σ H Q ⟨U, m, r, h, v, hr, er, rv, o⟩ => by
  cases rv with
  | nil => exact ⟨rfl, o H U m .refl hr _ er .refl⟩
  | cons _ _ => exact (show False from o).elim
theorem cgs_cons (h1 : CG T X e g vs) (h2 : CGs T X es gs ws) (hs : (assignEach (e :: es) X.env).map (·.2) = assign e X.env :: (assignEach es X.env).map (·.2) := by rfl) : CGs T X (e :: es) (gsCons g gs) (vs ++ ws) := fun ok W tk =>
  pgs_imp (pgs_cons (h1 ok W tk) (h2 ok W tk) hs) fun xs σ H Q ⟨U, m, r, h, v, hr, er, rv, o⟩ => by
    cases rv with
    | nil => exact (show False from o).elim
    | cons r1 r2 =>
      refine ⟨_, _, rfl, U, m, r, h, _, hr, er, r1, (Out.bind hr o).mono fun r' h' H' U' m' gr hr' o1 σ' er' sb => ?_⟩
      exact ⟨U', m', r', h', _, hr', er', hr.reps gr r2, o1.mono fun r2' h2' H2 U2 m2 g2 hr2 k σ2 er2 sb2 => k σ2 er2 (sb.trans sb2)⟩
theorem cg_tup {k n : Nat} (h : CGs T X es gs vs) (hn : (assignEach es X.env).length = n := by rfl) (hst : (assignEach es X.env).findIdx? (·.1) = none := by rfl) : CG T X (.Tuple es k pos) (gUnp n gs) vs := fun ok W tk =>
  pg_imp (pg_tup ok.calm (h ok W tk) hn hst) fun x σ H Q ⟨U, m, r, h, v, hr, er, rv, o⟩ => by
    unfold gUnp at o
    split at o
    · split at o
      · rename_i xs hl
        cases rv with
        | tup h0 h1 h2 => exact ⟨_, _, rfl, by rw [ok.k]; exact h1.t, by rw [← h2.length]; exact hl, U, m, r, h, _, hr, er, h2, o⟩
      · exact (show False from o).elim
    · split at o
      · rename_i xs hl
        cases rv with
        | pr h0 h1 h2 => exact ⟨_, _, rfl, by rw [ok.k]; exact h1, by rw [← h2.length]; exact hl, U, m, r, h, _, hr, er, h2, o⟩
        | ins h0 => exact absurd h0 (by decide)
      · exact (show False from o).elim
    · exact (show False from o).elim
end

/-! ### statements -/
inductive Fl where
  | nx (r : Ev)
  | rt (v : Val)
  | bk (r : Ev)
  | ct (r : Ev)
abbrev Stm := Ev → SM Fl
/-- what is wanted behind a statement -/
def KF (T : Tab) (D : Ends) (f : Fl) (H' : Hp) (U' : Addr → Prop) (m' : List (Option Addr)) : Prop := match f with
  | .nx r => ∀ σ', ER T H' U' m' r σ' → D.nx σ' H'
  | .rt v => ∀ x, Rep T H' U' m' v x → D.rt x H'
  | .bk r => ∀ σ', ER T H' U' m' r σ' → D.bk σ' H'
  | .ct r => ∀ σ', ER T H' U' m' r σ' → D.ct σ' H'
def tS (T : Tab) (W : WC) (ms : Stm) : TS := fun D σ H => ∃ U m r h, HR T H U m h ∧ ER T H U m r σ ∧ Out T H U m W (ms r h) fun f _ H' U' m' => KF T D f H' U' m'
abbrev PO1 (X : Cx) : Prop := PassesOwn (model X.prog X.w) X.A X.env X.xe
def CS (T : Tab) (X : Cx) (st : Stmt) (ms : Stm) : Prop := XOk T X → PO1 X → ∀ W, Tk X W → PS X st (tS T W ms)
def CSs (T : Tab) (X : Cx) (st : List Stmt) (ms : Stm) : Prop := XOk T X → PO1 X → ∀ W, Tk X W → PSs X st (tS T W ms)
def sNil : Stm := fun r h => .ok (.nx r) h
def sSeq (a b : Stm) : Stm := fun r h => (a r h).bind fun f h1 => match f with
  | .nx r1 => b r1 h1
  | f => .ok f h1
def sExpr (e : Ex) : Stm := fun r h => (e r h).bind fun _ h1 => .ok (.nx r) h1
def sRet (e : Ex) : Stm := fun r h => (e r h).bind fun v h1 => .ok (.rt v) h1
def sRetN : Stm := fun _ h => .ok (.rt .non) h
def sIf (c : Ex) (a b : Stm) : Stm := fun r h => ((c r h).bind truthM).bind fun k h1 => if k then a r h1 else b r h1
def sAsg (e : Ex) (g : TGm) : Stm := fun r h => (e r h).bind fun v h1 => (g v r h1).bind fun r1 h2 => .ok (.nx r1) h2
def sPar (i j : Nat) (ms : List Ex) : Stm := fun r h => (eArgs ms r h).bind fun vs h1 => match vs with
  | [v, w] => .ok (.nx ((r.set i (some v)).set j (some w))) h1
  | _ => .stuck
def sPar3 (i j l : Nat) (ms : List Ex) : Stm := fun r h => (eArgs ms r h).bind fun vs h1 => match vs with
  | [u, v, w] => .ok (.nx (((r.set i (some u)).set j (some v)).set l (some w))) h1
  | _ => .stuck
def sAug (i : Nat) (g : PH → Val → Val → Option Val) (e : Ex) : Stm := fun r h => (eVar i r h).bind fun x h1 => (e r h1).bind fun y h2 => (lift (g h2 x y) h2).bind fun z h3 => .ok (.nx (r.set i (some z))) h3
def sBrk : Stm := fun r h => .ok (.bk r) h
def sCnt : Stm := fun r h => .ok (.ct r) h
section
variable {T : Tab} {X : Cx} {pos : Pos} {st : Stmt} {rest a b : List Stmt} {e c tg : Expr} {es : List Expr} {me mc : Ex} {ms : List Ex} {ma mb : Stm} {g : TGm} {vs : List Nat}
/-- an end of a run is an end wanted -/
theorem KF.ends {D D' : Ends} {f : Fl} {H : Hp} {U : Addr → Prop} {m : List (Option Addr)} (k : KF T D f H U m) (h1 : D.nx = D'.nx) (h2 : D.rt = D'.rt) (h3 : D.bk = D'.bk) (h4 : D.ct = D'.ct) : KF T D' f H U m := by
  cases f with
  | nx r => unfold KF at k ⊢; rw [← h1]; exact k
  | rt r => unfold KF at k ⊢; rw [← h2]; exact k
  | bk r => unfold KF at k ⊢; rw [← h3]; exact k
  | ct r => unfold KF at k ⊢; rw [← h4]; exact k
theorem css_nil : CSs T X [] sNil := fun ok po W tk => pss_imp pss_nil fun D σ H ⟨U, m, r, h, hr, er, o⟩ => o H U m .refl hr σ er
theorem css_cons (h1 : CS T X st ma) (h2 : CSs T X rest mb) : CSs T X (st :: rest) (sSeq ma mb) := fun ok po W tk => pss_imp (pss_cons (h1 ok po W tk) (h2 ok po W tk)) fun D σ H ⟨U, m, r, h, hr, er, o⟩ => by
  refine ⟨U, m, r, h, hr, er, (Out.bind hr o).mono fun f h' H' U' m' gr hr' o1 => ?_⟩
  cases f with
  | nx r1 => exact fun σ' er' => ⟨U', m', r1, h', hr', er', o1⟩
  | rt v => exact o1 H' U' m' .refl hr'
  | bk r1 => exact o1 H' U' m' .refl hr'
  | ct r1 => exact o1 H' U' m' .refl hr'
theorem css_one (h1 : CS T X st ma) : CSs T X [st] ma := fun ok po W tk => pss_one (h1 ok po W tk)
theorem cs_pass : CS T X (.Pass pos) sNil := fun ok po W tk => ps_imp ps_pass fun D σ H ⟨U, m, r, h, hr, er, o⟩ => o H U m .refl hr σ er
theorem cs_break : CS T X (.Break pos) sBrk := fun ok po W tk => ps_imp ps_break fun D σ H ⟨U, m, r, h, hr, er, o⟩ => o H U m .refl hr σ er
theorem cs_cont : CS T X (.Continue pos) sCnt := fun ok po W tk => ps_imp ps_continue fun D σ H ⟨U, m, r, h, hr, er, o⟩ => o H U m .refl hr σ er
theorem cs_expr (he : CE T X e me) (hs : swapsWith e none pos.line X.env = pure false := by rfl) : CS T X (.Expr e pos) (sExpr me) := fun ok po W tk => ps_imp (ps_expr (he ok W tk) hs) fun D σ H ⟨U, m, r, h, hr, er, o⟩ =>
  tE_then hr er o fun x H1 U1 m1 h1 v g1 hr1 er1 rx o1 => o1 H1 U1 m1 .refl hr1 σ er1
theorem cs_ret (he : CE T X e me) : CS T X (.Return (some e) pos) (sRet me) := fun ok po W tk => ps_imp (ps_ret (he ok W tk)) fun D σ H ⟨U, m, r, h, hr, er, o⟩ =>
  tE_then hr er o fun x H1 U1 m1 h1 v g1 hr1 er1 rx o1 => o1 H1 U1 m1 .refl hr1 x rx
theorem cs_retN : CS T X (.Return none pos) sRetN := fun ok po W tk => ps_imp ps_retN fun D σ H ⟨U, m, r, h, hr, er, o⟩ => o H U m .refl hr .non .non
theorem cs_if (hc : CT T X c mc) (ha : CSs T X a ma) (hb : CSs T X b mb) : CS T X (.If c a b pos) (sIf mc ma mb) := fun ok po W tk => ps_imp (ps_if (hc ok W tk) (ha ok po W tk) (hb ok po W tk)) fun D σ H ⟨U, m, r, h, hr, er, o⟩ => by
  refine tT_then hr er o fun k H1 U1 m1 h1 g1 hr1 er1 o1 => ?_
  cases k with
  | true => rw [if_pos rfl]; exact ⟨U1, m1, r, h1, hr1, er1, o1⟩
  | false => rw [if_neg Bool.false_ne_true]; exact ⟨U1, m1, r, h1, hr1, er1, o1⟩
theorem cs_asg (he : CE T X e me) (hg : CG T X tg g vs) (hs : swapsWithSole [tg] e pos.line X.env = pure false := by rfl) (hw : swappedStores [tg] e X.env = pure none := by rfl)
    (h1 : (assignEach [tg] X.env).map (·.2) = [assign tg X.env] := by rfl) : CS T X (.Assign [tg] e pos) (sAsg me g) := fun ok po W tk => ps_imp (ps_asg (he ok W tk) (hg ok W tk) hs hw h1) fun D σ H ⟨U, m, r, h, hr, er, o⟩ => by
  refine tE_then hr er o fun x H1 U1 m1 h1 v g1 hr1 er1 rx o1 => ?_
  exact ⟨U1, m1, r, h1, v, hr1, er1, rx, (Out.bind hr1 o1).mono fun r' h' H' U' m' g' hr' o2 σ' er' _ => o2 H' U' m' .refl hr' σ' er'⟩
theorem cs_set (i : Nat) {x : Str} {p : Pos} (he : CE T X e me) (hs : swapsWith e (some (.Name x p)) pos.line X.env = pure false := by rfl) (hi : X.N[i]? = some x := by rfl) (hx : Loc X.env.scope x := by first | exact Or.inl rfl | exact Or.inr rfl) (hf : X.fn x = true ∨ X.env.scope.names.lookup x = some .local := by first | exact .inl rfl | exact .inr rfl) : CS T X (.Assign [.Name x p] e pos) (sAsg me (gSet i)) := fun ok po W tk =>
  ps_imp (ps_set ok.nd hi hx (he ok W tk) hs hf) fun D σ H ⟨U, m, r, h, hr, er, o⟩ =>
    tE_then hr er o fun y H1 U1 m1 h1 v g1 hr1 er1 ry o1 => o1 H1 U1 m1 .refl hr1 _ (er1.set ry)
theorem cs_par (i j : Nat) {x y : Str} {a b : Expr} {px py pt : Pos} {kt k2 pt2} (ha : CA T X [a, b] (eArgs ms)) (hi : X.N[i]? = some x := by rfl) (hj : X.N[j]? = some y := by rfl) (hij : i ≠ j := by decide)
    (hx : X.env.scope.names.lookup x = some .local := by rfl) (hy : X.env.scope.names.lookup y = some .local := by rfl)
    (hw : swappedStores [.Tuple [.Name x px, .Name y py] kt pt] (.Tuple [a, b] k2 pt2) X.env = pure (some [x, y]) := by rfl)
    (hs : swapsWithSole [.Tuple [.Name x px, .Name y py] kt pt] (.Tuple [a, b] k2 pt2) pos.line X.env = pure false := by rfl) :
    CS T X (.Assign [.Tuple [.Name x px, .Name y py] kt pt] (.Tuple [a, b] k2 pt2) pos) (sPar i j ms) := fun ok po W tk => ps_imp (ps_par ok.calm ok.nd hi hj hij hx hy (ha ok W tk) hw hs) fun D σ H ⟨U, m, r, h, hr, er, o⟩ => by
  refine tA_then hr er o fun xs H1 U1 m1 h1 vs e1 g1 hr1 er1 rx o1 => ?_
  split at o1
  · cases rx with
    | cons r1 r2 =>
      cases r2 with
      | cons r2 r3 =>
        cases r3
        exact ⟨_, _, rfl, o1 H1 U1 m1 .refl hr1 _ ((er1.set r1).set r2)⟩
  · exact (show False from o1).elim
theorem cs_par3 (i j l : Nat) {x y z : Str} {a b c : Expr} {px py pz pt : Pos} {kt k2 pt2} (ha : CA T X [a, b, c] (eArgs ms)) (hi : X.N[i]? = some x := by rfl) (hj : X.N[j]? = some y := by rfl) (hl : X.N[l]? = some z := by rfl) (hij : i ≠ j := by decide) (hil : i ≠ l := by decide) (hjl : j ≠ l := by decide)
    (hx : X.env.scope.names.lookup x = some .local := by rfl) (hy : X.env.scope.names.lookup y = some .local := by rfl) (hz : X.env.scope.names.lookup z = some .local := by rfl)
    (hw : swappedStores [.Tuple [.Name x px, .Name y py, .Name z pz] kt pt] (.Tuple [a, b, c] k2 pt2) X.env = pure (some [x, y, z]) := by rfl)
    (hs : swapsWithSole [.Tuple [.Name x px, .Name y py, .Name z pz] kt pt] (.Tuple [a, b, c] k2 pt2) pos.line X.env = pure false := by rfl) :
    CS T X (.Assign [.Tuple [.Name x px, .Name y py, .Name z pz] kt pt] (.Tuple [a, b, c] k2 pt2) pos) (sPar3 i j l ms) := fun ok po W tk => ps_imp (ps_par3 ok.calm ok.nd hi hj hl hij hil hjl hx hy hz (ha ok W tk) hw hs) fun D σ H ⟨U, m, r, h, hr, er, o⟩ => by
  refine tA_then hr er o fun xs H1 U1 m1 h1 vs e1 g1 hr1 er1 rx o1 => ?_
  split at o1
  · cases rx with
    | cons r1 r2 =>
      cases r2 with
      | cons r2 r3 =>
        cases r3 with
        | cons r3 r4 =>
          cases r4
          exact ⟨_, _, _, rfl, o1 H1 U1 m1 .refl hr1 _ (((er1.set r1).set r2).set r3)⟩
  · exact (show False from o1).elim
theorem cs_aug (i : Nat) {x : Str} {op : Operator} {gg : PH → Val → Val → Option Val} {p : Pos} (he : CE T X e me) (ho : XOk T X → OpS T X (inplaceOp op) gg) (hi : X.N[i]? = some x := by rfl) (hx : Loc X.env.scope x := by first | exact Or.inl rfl | exact Or.inr rfl) (hf : X.fn x = true ∨ X.env.scope.names.lookup x = some .local := by first | exact .inl rfl | exact .inr rfl) :
    CS T X (.AugAssign (.Name x p) op e pos) (sAug i gg me) := fun ok po W tk => ps_imp (ps_aug ok.nd hi hx (he ok W tk) (OpS.r (@ho ok)) hf) fun D σ H ⟨U, m, r, h, hr, er, o⟩ => by
  obtain ⟨v, ev⟩ : ∃ v, r.getD i none = some v := by
    cases q : r.getD i none with
    | none => simp only [sAug, eVar, q] at o; exact (show False from o).elim
    | some v => exact ⟨v, rfl⟩
  have e1 : r[i]? = some (some v) := by
    rw [List.getD_eq_getElem?_getD] at ev
    cases q : r[i]? with
    | none => rw [q] at ev; cases ev
    | some z => rw [q] at ev; exact congrArg some ev
  obtain ⟨xv, e2, rx⟩ := er.val i v e1
  refine ⟨xv, e2, ?_⟩
  have o2 : Out T H U m W ((me r h).bind fun y h2 => (lift (gg h2 v y) h2).bind fun z h3 => Res.ok (Fl.nx (r.set i (some z))) h3) fun f _ H' U' m' => KF T D f H' U' m' := by
    have := o
    simp only [sAug, eVar, ev] at this
    exact this
  refine tE_then hr er o2 fun y H1 U1 m1 h1 w g1 hr1 er1 ry o1 => ?_
  cases q : gg h1 v w with
  | none => rw [q] at o1; exact (show False from o1).elim
  | some z =>
    rw [q] at o1
    refine ⟨U1, m1, h1, v, w, z, hr1, hr.rep g1 rx, ry, q, fun zv H' ex rz => ?_⟩
    exact o1 H' U1 m1 (Gr.of_ext ex) (hr1.ext ex) _ ((hr1.env (Gr.of_ext ex) er1).set rz)
end

/-! ### what is walked -/
structure Src where
  n : Nat
  get : PH → Nat → Option Val
  fin : PH → Bool
def Src.of (xs : List Val) : Src := ⟨xs.length, fun _ i => xs[i]?, fun _ => true⟩
/-- J goes as src says, from (H0, U0, m0) on -/
structure WalkS (T : Tab) (J : It) (src : Src) (H0 : Hp) (U0 : Addr → Prop) (m0 : List (Option Addr)) : Prop where
  size : src.n ≤ sizeLine
  go : ∀ {H : Hp} {U : Addr → Prop} {m : List (Option Addr)} {h : PH} {i : Nat} {v : Val}, Gw H0 U0 m0 H U m → HR T H U m h → i < src.n → src.get h i = some v → J.go i H ∧ ∀ x H', J.yld i H x H' → Ext H H' ∧ Rep T H' U m v x
  stop : ∀ {H : Hp} {U : Addr → Prop} {m : List (Option Addr)} {h : PH}, Gw H0 U0 m0 H U m → HR T H U m h → src.fin h = true → J.stop src.n H
def tI (T : Tab) (W : WC) (ms : Ev → SM Src) : TI := fun σ H R => ∃ U m r h, HR T H U m h ∧ ER T H U m r σ ∧ Out T H U m W (ms r h) fun src _ H' U' m' => ∀ J, WalkS T J src H' U' m' → R J H'
def CI (T : Tab) (X : Cx) (tg e : Expr) (ms : Ev → SM Src) : Prop := XOk T X → ∀ W, Tk X W → PI X tg e (tI T W ms)

/-! ### for, while -/
def forLoop (src : Src) (g : TGm) (b : Stm) : Nat → Nat → Ev → SM Fl
  | 0, _, r => fun h => if src.fin h then .ok (.nx r) h else .stuck
  | k + 1, i, r => fun h => match src.get h i with
    | none => .stuck
    | some v => (g v r h).bind fun r1 h1 => (b r1 h1).bind fun f h2 => match f with
      | .nx r2 => forLoop src g b k (i + 1) r2 h2
      | .ct r2 => forLoop src g b k (i + 1) r2 h2
      | .bk r2 => .ok (.nx r2) h2
      | .rt v => .ok (.rt v) h2
def sFor (ms : Ev → SM Src) (g : TGm) (b : Stm) : Stm := fun r h => (ms r h).bind fun src h1 => forLoop src g b src.n 0 r h1
def whLoop (c : Ex) (b : Stm) : Nat → Ev → SM Fl
  | 0, _ => fun _ => .stuck
  | k + 1, r => fun h => ((c r h).bind truthM).bind fun t h1 => if t then (b r h1).bind fun f h2 => (match f with
      | .nx r2 => whLoop c b k r2 h2
      | .ct r2 => whLoop c b k r2 h2
      | .bk r2 => .ok (.nx r2) h2
      | .rt v => .ok (.rt v) h2) else .ok (.nx r) h1
/-- the most turns of a while -/
abbrev turns : Nat := 1000000
def sWh (c : Ex) (b : Stm) : Stm := fun r h => whLoop c b turns r h
section
variable {T : Tab} {X : Cx} {pos : Pos} {body : List Stmt} {c tg iter : Expr} {mc : Ex} {ms : Ev → SM Src} {mb : Stm} {g : TGm} {vs : List Nat}
theorem for_run {W : WC} {D : Ends} {J : It} {src : Src} {H0 : Hp} {U0 : Addr → Prop} {m0 : List (Option Addr)} (w : WalkS T J src H0 U0 m0) {σ : L2.St} {U : Addr → Prop} {m : List (Option Addr)} {r : Ev} {h : PH} (hr : HR T H0 U0 m0 h) (er : ER T H0 U0 m0 r σ)
    (o : Out T H0 U0 m0 W (forLoop src g mb src.n 0 r h) fun f _ H' U' m' => KF T D f H' U' m') :
    ∃ Wv : Nat → Nat → L2.St → Hp → Prop, (∃ k, Wv 0 k σ H0) ∧ ∀ i k σ H, Wv i k σ H →
      (J.stop i H ∧ D.nx σ H) ∨ (J.go i H ∧ ∃ N : L2.St → Hp → Prop, (∀ σ' H', N σ' H' → ∃ k', k' < k ∧ Wv (i + 1) k' σ' H') ∧ ∀ x H', J.yld i H x H' → tG T W g vs x σ H' fun σ2 H2 => tS T W mb { D with nx := N, ct := N, bk := D.nx } σ2 H2) := by
  refine ⟨fun i k σ H => i + k = src.n ∧ ∃ U m r h, HR T H U m h ∧ ER T H U m r σ ∧ Gw H0 U0 m0 H U m ∧ Out T H U m W (forLoop src g mb k i r h) fun f _ H' U' m' => KF T D f H' U' m', ⟨src.n, by omega, U0, m0, r, h, hr, er, .refl, o⟩, ?_⟩
  rintro i k σ H ⟨hik, U, m, r, h, hr, er, gw, o⟩
  cases k with
  | zero =>
    unfold forLoop at o
    split at o
    · rename_i hf
      have : i = src.n := by omega
      subst this
      exact .inl ⟨w.stop gw hr hf, o H U m .refl hr σ er⟩
    · exact (show False from o).elim
  | succ k =>
    unfold forLoop at o
    split at o
    · exact (show False from o).elim
    · rename_i v ev
      obtain ⟨w1, w2⟩ := w.go gw hr (by omega) ev
      refine .inr ⟨w1, fun σ H => i + 1 + k = src.n ∧ ∃ U m r h, HR T H U m h ∧ ER T H U m r σ ∧ Gw H0 U0 m0 H U m ∧ Out T H U m W (forLoop src g mb k (i + 1) r h) fun f _ H' U' m' => KF T D f H' U' m', fun σ' H' hN => ⟨k, by omega, hN⟩, fun x H' y => ?_⟩
      obtain ⟨ex, rx⟩ := w2 x H' y
      have hr' := hr.ext ex
      have g1 : Gr H U m H' U m := Gr.of_ext ex
      have o1 := Out.step hr hr' g1 o
      refine ⟨U, m, r, h, v, hr', hr.env g1 er, rx, (Out.bind hr' o1).mono fun r1 h1 H1 U1 m1 g2 hr1 o2 σ1 er1 _ => ?_⟩
      refine ⟨U1, m1, r1, h1, hr1, er1, (Out.bind hr1 o2).mono fun f h2 H2 U2 m2 g3 hr2 o3 => ?_⟩
      have gw2 : Gw H0 U0 m0 H2 U2 m2 := gw.trans (((hr.trans hr' g1 g2).trans g3).gw hr.sub)
      cases f with
      | nx r2 => exact fun σ2 er2 => ⟨by omega, U2, m2, r2, h2, hr2, er2, gw2, o3⟩
      | ct r2 => exact fun σ2 er2 => ⟨by omega, U2, m2, r2, h2, hr2, er2, gw2, o3⟩
      | bk r2 => exact o3 H2 U2 m2 .refl hr2
      | rt v2 => exact o3 H2 U2 m2 .refl hr2
theorem cs_for (hi : CI T X tg iter ms) (hg : CG T X tg g vs) (hb : CSs T X body mb) (hs : ∀ x, foldedSetIterable iter X.env x = pure x := by intro _; rfl) : CS T X (.For tg iter body [] pos) (sFor ms g mb) := fun ok po W tk =>
  ps_imp (ps_for po ok.calm (hi ok W tk) (hg ok W tk) (hb ok po W tk) hs) fun D σ H ⟨U, m, r, h, hr, er, o⟩ =>
    ⟨U, m, r, h, hr, er, (Out.bind hr o).mono fun src h1 H1 U1 m1 g1 hr1 o1 J w => for_run (U := U1) (m := m1) w hr1 (hr.env g1 er) o1⟩
theorem cs_while (hc : CT T X c mc) (hb : CSs T X body mb) : CS T X (.While c body [] pos) (sWh mc mb) := fun ok po W tk =>
  ps_imp (ps_while po (hc ok W tk) (hb ok po W tk)) fun D σ H ⟨U, m, r, h, hr, er, o⟩ => by
    refine ⟨fun k σ H => ∃ U m r h, HR T H U m h ∧ ER T H U m r σ ∧ Out T H U m W (whLoop mc mb k r h) fun f _ H' U' m' => KF T D f H' U' m', ⟨turns, U, m, r, h, hr, er, o⟩, ?_⟩
    rintro k σ H ⟨U, m, r, h, hr, er, o⟩
    cases k with
    | zero => exact (show False from o).elim
    | succ k =>
      unfold whLoop at o
      refine tT_then hr er o fun t H1 U1 m1 h1 g1 hr1 er1 o1 => ?_
      cases t with
      | false => rw [if_neg Bool.false_ne_true]; exact o1 H1 U1 m1 .refl hr1 σ er1
      | true =>
        rw [if_pos rfl]
        rw [if_pos rfl] at o1
        refine ⟨fun σ H => ∃ U m r h, HR T H U m h ∧ ER T H U m r σ ∧ Out T H U m W (whLoop mc mb k r h) fun f _ H' U' m' => KF T D f H' U' m', fun σ' H' hN => ⟨k, by omega, hN⟩, ?_⟩
        refine ⟨U1, m1, r, h1, hr1, er1, (Out.bind hr1 o1).mono fun f h2 H2 U2 m2 g3 hr2 o3 => ?_⟩
        cases f with
        | nx r2 => exact fun σ2 er2 => ⟨U2, m2, r2, h2, hr2, er2, o3⟩
        | ct r2 => exact fun σ2 er2 => ⟨U2, m2, r2, h2, hr2, er2, o3⟩
        | bk r2 => exact o3 H2 U2 m2 .refl hr2
        | rt v2 => exact o3 H2 U2 m2 .refl hr2
end
end SW

namespace SW
open PySem PySem.Spec PyProof.Rows L2

/-! ### comprehensions -/
def wipeE (r : Ev) : List Nat → Ev
  | [] => r
  | v :: vs => (wipeE r vs).set v none
theorem ER.wipes {T : Tab} {H : Hp} {U : Addr → Prop} {m : List (Option Addr)} {r : Ev} {σ : L2.St} (e : ER T H U m r σ) : ∀ vs : List Nat, ER T H U m (wipeE r vs) (L2.wipe σ vs)
  | [] => e
  | v :: vs => (ER.wipes e vs).wipe v
def eTest (mt : Option Ex) : Ev → SM Bool := fun r h => match mt with
  | none => .ok true h
  | some e => (e r h).bind truthM
def compLoop (src : Src) (g : TGm) (mt : Option Ex) (body : Ev → SM (List Val)) (own : List Nat) : Nat → Nat → Ev → SM (List Val)
  | 0, _, _ => fun h => if src.fin h then .ok [] h else .stuck
  | k + 1, i, r => fun h => match src.get h i with
    | none => .stuck
    | some v => (g v (wipeE r own) h).noexc.bind fun r1 h1 => (eTest mt r1 h1).noexc.bind fun b h2 => if b then
        (body r1 h2).noexc.bind fun ys h3 => (compLoop src g mt body own k (i + 1) r h3).bind fun zs h4 => .ok (ys ++ zs) h4
      else compLoop src g mt body own k (i + 1) r h2
def eOne (e : Ex) : Ev → SM (List Val) := fun r h => (e r h).bind fun v h1 => .ok [v] h1
def eComp (ms : Ev → SM Src) (g : TGm) (mt : Option Ex) (elt : Ex) (own : List Nat) : Ev → SM (List Val) := fun r h => (ms r h).bind fun src h1 => compLoop src g mt (eOne elt) own src.n 0 r h1
def eIn (ms1 : Ev → SM Src) (g1 : TGm) (mt1 : Option Ex) (elt : Ex) (own1 : List Nat) : Ev → SM (List Val) := fun r h => (ms1 r h).bind fun src h1 => compLoop src g1 mt1 (eOne elt) own1 src.n 0 r h1
def eComp2 (ms : Ev → SM Src) (g : TGm) (mt : Option Ex) (ms1 : Ev → SM Src) (g1 : TGm) (mt1 : Option Ex) (elt : Ex) (own own1 : List Nat) : Ev → SM (List Val) := fun r h => (ms r h).bind fun src h1 =>
  (compLoop src g mt (eIn ms1 g1 mt1 elt own1) own src.n 0 r h1).bind fun vs h2 => if vs.length ≤ big then .ok vs h2 else .stuck
theorem noexc_ok {α β : Type} {r : Res α} {f : α → SM β} {b : β} {h : PH} (e : r.noexc.bind f = .ok b h) : ∃ a h1, r = .ok a h1 ∧ f a h1 = .ok b h := by
  cases r with
  | ok a h1 => exact ⟨a, h1, rfl, e⟩
  | exc _ _ => cases e
  | stuck => cases e
theorem bind_ok {α β : Type} {r : Res α} {f : α → SM β} {b : β} {h : PH} (e : r.bind f = .ok b h) : ∃ a h1, r = .ok a h1 ∧ f a h1 = .ok b h := by
  cases r with
  | ok a h1 => exact ⟨a, h1, rfl, e⟩
  | exc _ _ => cases e
  | stuck => cases e
theorem compLoop_noexc {src : Src} {g : TGm} {mt : Option Ex} {body : Ev → SM (List Val)} {own : List Nat} : ∀ (k i : Nat) (r : Ev) (h : PH) (e : Val) (h' : PH), compLoop src g mt body own k i r h ≠ .exc e h'
  | 0, i, r, h, e, h', z => by
    unfold compLoop at z
    split at z <;> cases z
  | k + 1, i, r, h, e, h', z => by
    unfold compLoop at z
    split at z
    · cases z
    · rename_i v _
      cases q1 : g v (wipeE r own) h with
      | ok r1 h1 =>
        rw [q1] at z
        simp only [Res.noexc, Res.bind] at z
        cases q2 : eTest mt r1 h1 with
        | ok b h2 =>
          rw [q2] at z
          simp only at z
          cases b with
          | true =>
            simp only [if_true] at z
            cases q3 : body r1 h2 with
            | ok ys h3 =>
              rw [q3] at z
              simp only at z
              cases q4 : compLoop src g mt body own k (i + 1) r h3 with
              | ok zs h4 => rw [q4] at z; cases z
              | exc e4 h4 => exact compLoop_noexc k _ _ _ _ _ q4
              | stuck => rw [q4] at z; cases z
            | exc _ _ => rw [q3] at z; cases z
            | stuck => rw [q3] at z; cases z
          | false =>
            simp only [Bool.false_eq_true, if_false] at z
            exact compLoop_noexc k _ _ _ _ _ z
        | exc _ _ => rw [q2] at z; cases z
        | stuck => rw [q2] at z; cases z
      | exc _ _ => rw [q1] at z; cases z
      | stuck => rw [q1] at z; cases z
theorem eOne_len {e : Ex} {r : Ev} {h h' : PH} {vs : List Val} (q : eOne e r h = .ok vs h') : vs.length = 1 := by
  obtain ⟨v, h1, _, e2⟩ := bind_ok q
  cases e2; rfl
theorem compLoop_len {src : Src} {g : TGm} {mt : Option Ex} {e : Ex} {own : List Nat} : ∀ (k i : Nat) (r : Ev) (h h' : PH) (vs : List Val), compLoop src g mt (eOne e) own k i r h = .ok vs h' → vs.length ≤ k
  | 0, i, r, h, h', vs, z => by
    unfold compLoop at z
    split at z
    · cases z; simp
    · cases z
  | k + 1, i, r, h, h', vs, z => by
    unfold compLoop at z
    split at z
    · cases z
    · obtain ⟨r1, h1, _, z1⟩ := noexc_ok z
      obtain ⟨b, h2, _, z2⟩ := noexc_ok z1
      cases b with
      | true =>
        simp only [if_true] at z2
        obtain ⟨ys, h3, e3, z3⟩ := noexc_ok z2
        obtain ⟨zs, h4, e4, z4⟩ := bind_ok z3
        cases z4
        rw [List.length_append, eOne_len e3]
        have := compLoop_len _ _ _ _ _ _ e4
        omega
      | false =>
        simp only [Bool.false_eq_true, if_false] at z2
        have := compLoop_len _ _ _ _ _ _ z2
        omega

/-- Gr, but the list at D may have changed -/
structure Gd (D : Addr) (H : Hp) (U : Addr → Prop) (m : List (Option Addr)) (H' : Hp) (U' : Addr → Prop) (m' : List (Option Addr)) : Prop where
  keep : ∀ a o, ¬ Lv m a → a ≠ D → H a = some o → H' a = some o
  new : ∀ a, U' a → U a ∨ H a = none
  ext : Mg H m m'
  there : ∀ a, H a ≠ none → H' a ≠ none
  up : ∀ a, U a → H a ≠ none → ¬ Lv m a → U' a
section
variable {T : Tab} {D : Addr} {H H' H2 : Hp} {U U' U2 : Addr → Prop} {m m' m2 : List (Option Addr)} {h h' : PH}
theorem Gr.gd (g : Gr H U m H' U' m') : Gd D H U m H' U' m' := ⟨fun a o h1 _ h3 => g.keep a o h1 h3, g.new, g.ext, g.there, g.up⟩
theorem Gd.trans (g : Gd D H U m H' U' m') (k : Gd D H' U' m' H2 U2 m2) : Gd D H U m H2 U2 m2 := by
  have fresh : ∀ {a}, H' a = none → H a = none := fun {a} h => by
    cases e : H a with
    | none => rfl
    | some o => exact absurd h (g.there a (by rw [e]; exact fun z => nomatch z))
  have live : ∀ {a} {o : HO}, ¬ Lv m a → H a = some o → ¬ Lv m' a := fun {a o} ha h ⟨l, e⟩ => by
    by_cases hl : l < m.length
    · exact ha ⟨l, g.ext.old l a hl e⟩
    · rw [g.ext.new l a (by omega) e] at h; cases h
  refine ⟨fun a o ha hd h => k.keep a o (live ha h) hd (g.keep a o ha hd h), fun a h => ?_, ⟨Nat.le_trans g.ext.len k.ext.len, fun l a hl e => g.ext.old l a hl (k.ext.old l a (Nat.lt_of_lt_of_le hl g.ext.len) e), fun l a hl e => ?_⟩, fun a h => k.there a (g.there a h), fun a h1 h2 h3 => k.up a (g.up a h1 h2 h3) (g.there a h2) ?_⟩
  · rcases k.new a h with z | z
    · exact g.new a z
    · exact .inr (fresh z)
  · by_cases h2 : l < m'.length
    · exact g.ext.new l a hl (k.ext.old l a h2 e)
    · exact fresh (k.ext.new l a (by omega) e)
  · cases e : H a with
    | none => exact absurd e h2
    | some o => exact live h3 e
theorem Gd.write {o : HO} : Gd D H U m (upd H D o) U m := ⟨fun a u _ hd e => by rw [upd_ne hd]; exact e, fun _ h => .inl h, .refl, upd_there, fun _ h _ _ => h⟩
theorem Gd.gw (g : Gd D H U m H' U' m') (hs : ∀ a, Lv m a → U a) (hd : U D) : Gw H U m H' U' m' := ⟨fun a o hu e => g.keep a o (fun z => hu (hs a z)) (fun z => hu (z ▸ hd)) e, g.new, g.ext.len, g.ext.old⟩
/-- D is new: none of H's objects -/
theorem Gd.gr (hD : H D = none) (mu : MutU H U) (g : Gd D (upd H D (.lst [])) (addU U D) m H' U' m') : Gr H U m H' U' m' := by
  refine ⟨fun a o ha e => g.keep a o ha (ne_of_none e hD) (by rw [upd_ne (ne_of_none e hD)]; exact e), fun a h => ?_, ⟨g.ext.len, g.ext.old, fun l a hl e => ?_⟩, fun a h => g.there a (upd_there a h), fun a h1 h2 h3 => g.up a (.inl h1) (upd_there a h2) h3⟩
  · rcases g.new a h with (z | z) | z
    · exact .inl z
    · exact .inr (z ▸ hD)
    · by_cases e : a = D
      · exact .inr (e ▸ hD)
      · rw [upd_ne e] at z; exact .inr z
  · have z := g.ext.new l a hl e
    by_cases e2 : a = D
    · exact e2 ▸ hD
    · rw [upd_ne e2] at z; exact z
/-- the state within a comprehension: the new list is at D, and holds what accv stands for -/
structure InC (T : Tab) (D : Addr) (H : Hp) (U : Addr → Prop) (m : List (Option Addr)) (h : PH) (accv : List Val) : Prop where
  hr : HR T H U m h
  nl : ¬ Lv m D
  ud : U D
  at_ : ∃ acc, H D = some (.lst acc) ∧ Reps T H U m accv acc
theorem InC.step {accv : List Val} (c : InC T D H U m h accv) (g : Gr H U m H' U' m') (hr : HR T H' U' m' h') : InC T D H' U' m' h' accv := by
  obtain ⟨acc, e, r⟩ := c.at_
  exact ⟨hr, g.live c.nl e, g.up _ c.ud (by rw [e]; exact fun z => nomatch z) c.nl, acc, g.keep _ _ c.nl e, c.hr.reps g r⟩
theorem InC.push {accv : List Val} {y : Val} {yv : V} (c : InC T D H U m h accv) (ry : Rep T H U m y yv) : ∃ acc, H D = some (.lst acc) ∧ acc.length = accv.length ∧ InC T D (upd H D (.lst (acc ++ [yv]))) U m h (accv ++ [y]) := by
  obtain ⟨acc, e, r⟩ := c.at_
  have gw : Gw H U m (upd H D (.lst (acc ++ [yv]))) U m := Gd.gw Gd.write c.hr.sub c.ud
  refine ⟨acc, e, r.length.symm, ⟨c.hr.len, c.hr.nd, c.hr.sub, fun a ha => ?_, fun l o q => ?_⟩, c.nl, c.ud, _, upd_same, (Reps.gr gw c.hr.us r).append (.cons (Rep.gr gw c.hr.us ry) .nil)⟩
  · by_cases q : a = D
    · subst q; rw [upd_same]; exact ⟨_, rfl, True.intro⟩
    · rw [upd_ne q]; exact c.hr.us a ha
  · rcases c.hr.obj l o q with z | ⟨a, e1, e2⟩
    · exact .inl z
    · exact .inr ⟨a, e1, e2.gw c.hr.us gw (upd_ne fun z => c.nl ⟨l, z ▸ e1⟩)⟩
end

/-- no exception is wished for -/
abbrev W0 : WC := fun _ _ _ => False
def tY (T : Tab) (W : WC) (mt : Option Ex) : TT := fun σ H Q => match mt with
  | none => Q true H
  | some e => tT T W e σ H Q
def CTs (T : Tab) (X : Cx) (ifs : List Expr) (mt : Option Ex) : Prop := XOk T X → ∀ W, Tk X W → PTs X ifs (tY T W mt)
theorem cts_nil {T : Tab} {X : Cx} : CTs T X [] none := fun _ _ _ => ⟨fun pins s σ H Q I q => pts_nil.run pins s σ H Q I q⟩
theorem cts_one {T : Tab} {X : Cx} {c : Expr} {e : Ex} (h : CT T X c e) : CTs T X [c] (some e) := fun ok W tk => ⟨fun pins s σ H Q I q => (pts_one (h ok W tk)).run pins s σ H Q I q⟩
theorem tY_then {T : Tab} {W : WC} {mt : Option Ex} {b : Bool} {σ : L2.St} {H : Hp} {U : Addr → Prop} {m : List (Option Addr)} {r : Ev} {h h1 : PH} (hr : HR T H U m h) (er : ER T H U m r σ) (e : eTest mt r h = .ok b h1)
    {Q : Bool → Hp → Prop} (k : ∀ H1 U1 m1, Gr H U m H1 U1 m1 → HR T H1 U1 m1 h1 → ER T H1 U1 m1 r σ → Q b H1) : tY T W mt σ H Q := by
  cases mt with
  | none => cases e; exact k H U m .refl hr er
  | some c =>
    refine ⟨U, m, r, h, hr, er, ?_⟩
    have e : (c r h).bind truthM = .ok b h1 := e
    rw [e]
    exact fun H1 U1 m1 g hr1 => k H1 U1 m1 g hr1 (hr.env g er)

section
variable {T : Tab}
/-- one level of a comprehension's loop; tb: what the turn's body asks -/
theorem comp_walk {J : It} {src : Src} {g : TGm} {vs own : List Nat} {mt : Option Ex} {body : Ev → SM (List Val)} {tb : L2.St → Hp → (Hp → Prop) → Prop} {D : Addr} {H0 Hs : Hp} {U0 Us : Addr → Prop} {m0 ms : List (Option Addr)} {hs hF : PH} {accv ys : List Val} {r : Ev} {σ : L2.St} {Fin : Hp → Prop}
    (w : WalkS T J src H0 U0 m0) (hv : ∀ i ∈ vs, i ∈ own) (gw : Gw H0 U0 m0 Hs Us ms) (c : InC T D Hs Us ms hs accv) (er : ER T Hs Us ms r σ) (e : compLoop src g mt body own src.n 0 r hs = .ok ys hF) (hz : accv.length + ys.length ≤ sizeLine)
    (hb : ∀ {σ2 : L2.St} {H3 : Hp} {U : Addr → Prop} {m : List (Option Addr)} {r2 : Ev} {h h' : PH} {accv ys : List Val} {Nx : Hp → Prop}, InC T D H3 U m h accv → ER T H3 U m r2 σ2 → body r2 h = .ok ys h' → accv.length + ys.length ≤ sizeLine →
      (∀ H' U' m', Gd D H3 U m H' U' m' → InC T D H' U' m' h' (accv ++ ys) → Nx H') → tb σ2 H3 Nx)
    (fin : ∀ H U m, Gd D Hs Us ms H U m → InC T D H U m hF (accv ++ ys) → Fin H) :
    ∃ Wv : Nat → Nat → Hp → Prop, (∃ k, Wv 0 k Hs) ∧ ∀ i k H, Wv i k H → (J.stop i H ∧ Fin H) ∨ (J.go i H ∧ ∃ Nx : Hp → Prop, (∀ H', Nx H' → ∃ k', k' < k ∧ Wv (i + 1) k' H') ∧ ∀ x H', J.yld i H x H' →
      tG T W0 g vs x (wipe σ own) H' fun σ2 H2 => wipe σ2 own = wipe σ own ∧ tY T W0 mt σ2 H2 fun b H3 => if b = true then tb σ2 H3 Nx else Nx H3) := by
  refine ⟨fun i k H => i + k = src.n ∧ ∃ U m h accv' zs, InC T D H U m h accv' ∧ ER T H U m r σ ∧ Gd D Hs Us ms H U m ∧ compLoop src g mt body own k i r h = .ok zs hF ∧ accv' ++ zs = accv ++ ys, ⟨src.n, by omega, Us, ms, hs, accv, ys, c, er, Gr.refl.gd, e, rfl⟩, ?_⟩
  rintro i k H ⟨hik, U, m, h, accv', zs, c', er', gd, e', ea⟩
  have gw' : Gw H0 U0 m0 H U m := gw.trans (gd.gw c.hr.sub c.ud)
  cases k with
  | zero =>
    unfold compLoop at e'
    split at e'
    · rename_i hf
      cases e'
      have : i = src.n := by omega
      subst this
      refine .inl ⟨w.stop gw' c'.hr hf, fin H U m gd ?_⟩
      rw [← ea, List.append_nil]
      exact c'
    · cases e'
  | succ k =>
    unfold compLoop at e'
    split at e'
    · cases e'
    · rename_i v ev
      obtain ⟨w1, w2⟩ := w.go gw' c'.hr (by omega) ev
      obtain ⟨r1, h1, e1, e'⟩ := noexc_ok e'
      obtain ⟨b, h2, e2, e'⟩ := noexc_ok e'
      refine .inr ⟨w1, fun H => i + 1 + k = src.n ∧ ∃ U m h accv' zs, InC T D H U m h accv' ∧ ER T H U m r σ ∧ Gd D Hs Us ms H U m ∧ compLoop src g mt body own k (i + 1) r h = .ok zs hF ∧ accv' ++ zs = accv ++ ys, fun H' q => ⟨k, by omega, q⟩, fun x H' y => ?_⟩
      obtain ⟨ex, rx⟩ := w2 x H' y
      have g1 : Gr H U m H' U m := Gr.of_ext ex
      have cc := c'.step g1 (c'.hr.ext ex)
      have er1 := c'.hr.env g1 er'
      refine ⟨U, m, wipeE r own, h, v, cc.hr, er1.wipes own, rx, ?_⟩
      rw [e1]
      intro H1 U1 m1 g2 hr1 σ2 er2 sb
      refine ⟨?_, ?_⟩
      · have a1 : wipe σ2 own = wipe (wipe σ own) own := wipe_same (sb.mono hv)
        have a2 : wipe (wipe σ own) own = wipe σ own := (wipe_same (vs := own) (σ := σ) (σ' := wipe σ own) ⟨wipe_length _ _, fun j hj => wipe_out hj⟩)
        rw [a1, a2]
      · have c1 := cc.step g2 hr1
        refine tY_then hr1 er2 e2 fun H2 U2 m2 g3 hr2 er3 => ?_
        have c2 := c1.step g3 hr2
        have gAll : Gr H U m H2 U2 m2 := (g1.trans g2).trans g3
        have erO := c'.hr.env gAll er'
        cases b with
        | false =>
          rw [if_neg Bool.false_ne_true]
          rw [if_neg Bool.false_ne_true] at e'
          exact ⟨by omega, U2, m2, h2, accv', zs, c2, erO, gd.trans gAll.gd, e', ea⟩
        | true =>
          rw [if_pos rfl]
          rw [if_pos rfl] at e'
          obtain ⟨y1, h3, e3, e'⟩ := noexc_ok e'
          obtain ⟨z1, h4, e4, e'⟩ := bind_ok e'
          cases e'
          have hl : accv'.length + (y1.length + z1.length) = accv.length + ys.length := by
            have := congrArg List.length ea
            simpa using this
          refine hb c2 er3 e3 (by omega) fun H' U' m' g4 c4 => ?_
          have gw4 := g4.gw c2.hr.sub c2.ud
          refine ⟨by omega, U', m', h3, accv' ++ y1, z1, c4, ?_, (gd.trans gAll.gd).trans g4, e4, by rw [List.append_assoc]; exact ea⟩
          exact ⟨erO.len, fun i v q => let ⟨x, q1, q2⟩ := erO.val i v q; ⟨x, q1, Rep.gr gw4 c2.hr.us q2⟩⟩
/-- the element itself -/
theorem body_one {D : Addr} {elt : Ex} {σ2 : L2.St} {H3 : Hp} {U : Addr → Prop} {m : List (Option Addr)} {r2 : Ev} {h h' : PH} {accv ys : List Val} {Nx : Hp → Prop} (c : InC T D H3 U m h accv) (er : ER T H3 U m r2 σ2) (e : eOne elt r2 h = .ok ys h') (hz : accv.length + ys.length ≤ sizeLine)
    (k : ∀ H' U' m', Gd D H3 U m H' U' m' → InC T D H' U' m' h' (accv ++ ys) → Nx H') : tE T W0 elt σ2 H3 fun y H4 => ∃ acc, H4 D = some (.lst acc) ∧ acc.length < sizeLine ∧ Nx (upd H4 D (.lst (acc ++ [y]))) := by
  obtain ⟨v, h1, e1, e2⟩ := bind_ok e
  cases e2
  refine ⟨U, m, r2, h, c.hr, er, ?_⟩
  rw [e1]
  intro H4 U4 m4 g hr4 x rx
  obtain ⟨acc, q1, q2, q3⟩ := (c.step g hr4).push rx
  exact ⟨acc, q1, by rw [q2]; simp at hz; omega, k _ _ _ (g.gd.trans Gd.write) q3⟩
/-- the new list, at the end -/
theorem InC.nl' {D : Addr} {H H1 H' : Hp} {U U1 U' : Addr → Prop} {m m1 m' : List (Option Addr)} {h1 h' : PH} {vs : List Val} (g : Gr H U m H1 U1 m1) (hr1 : HR T H1 U1 m1 h1) (hD : H1 D = none) (gd : Gd D (upd H1 D (.lst [])) (addU U1 D) m1 H' U' m') (c : InC T D H' U' m' h' vs) (hz : vs.length ≤ sizeLine) :
    ∃ U2 xs, NL T H U m h' vs H' U2 m' D xs := by
  obtain ⟨xs, e, r⟩ := c.at_
  have eU : addU (fun a => U' a ∧ a ≠ D) D = U' := funext fun a => propext ⟨fun z => z.elim (·.1) fun z => z ▸ c.ud, fun z => by
    by_cases q : a = D
    · exact .inr q
    · exact .inl ⟨z, q⟩⟩
  have g0 : Gr H U m H' U' m' := g.trans (Gd.gr hD hr1.us gd)
  refine ⟨fun a => U' a ∧ a ≠ D, xs, fun z => z.2 rfl, c.nl, g.fresh hD, ⟨g0.keep, fun a z => g0.new a z.1, g0.ext, g0.there, fun a h1 h2 h3 => ⟨g0.up a h1 h2 h3, fun z => h2 (z ▸ g.fresh hD)⟩⟩, by rw [eU]; exact c.hr, e, by rw [eU]; exact r, hz⟩
theorem InC.start {D : Addr} {H : Hp} {U : Addr → Prop} {m : List (Option Addr)} {h : PH} (hr : HR T H U m h) (hD : H D = none) : InC T D (upd H D (.lst [])) (addU U D) m h [] :=
  ⟨hr.addU hD True.intro, hr.notlv hD, .inr rfl, [], upd_same, .nil⟩
end
section
variable {T : Tab} {X : Cx} {elt tg iter tg1 iter1 : Expr} {ifs ifs1 : List Expr} {scope : Scope} {pos : Pos} {ms ms1 : Ev → SM Src} {g g1 : TGm} {mt mt1 : Option Ex} {me : Ex} {vs vs1 own1 : List Nat}
theorem comp_run {W : WC} {own : List Nat} {σ : L2.St} {H : Hp} {Q : VK} (hv : ∀ i ∈ vs, i ∈ own) (q : tN T W (eComp ms g mt me own) σ H Q) : tLc (tI T W ms) (tG T W0 g vs) (tY T W0 mt) (tE T W0 me) own σ H Q := by
  obtain ⟨U, m, r, h, hr, er, o⟩ := q
  refine ⟨U, m, r, h, hr, er, ?_⟩
  unfold eComp at o
  cases e0 : ms r h with
  | stuck => rw [e0] at o; exact o
  | exc _ _ => rw [e0] at o; exact o
  | ok src h1 =>
    rw [e0] at o
    intro H1 U1 m1 g0 hr1 J w D hD
    cases e1 : compLoop src g mt (eOne me) own src.n 0 r h1 with
    | stuck => simp only [Res.bind, e1] at o; exact o.elim
    | exc e2 h2 => exact absurd e1 (compLoop_noexc _ _ _ _ _ _)
    | ok ys hF =>
      simp only [Res.bind, e1] at o
      have hl : ys.length ≤ sizeLine := Nat.le_trans (compLoop_len _ _ _ _ _ _ e1) w.size
      have gw : Gw H1 U1 m1 (upd H1 D (.lst [])) (addU U1 D) m1 := (growU hD).gw hr1.sub
      refine comp_walk (tb := fun σ2 H3 Nx => tE T W0 me σ2 H3 fun y H4 => ∃ acc, H4 D = some (.lst acc) ∧ acc.length < sizeLine ∧ Nx (upd H4 D (.lst (acc ++ [y])))) w hv gw (InC.start hr1 hD) ((hr.env (g0.trans (growU hD)) er)) e1 (by simpa using hl) (fun c er e hz k => body_one c er e hz k) fun H' U' m' gd c => ?_
      obtain ⟨U2, xs, n⟩ := InC.nl' g0 hr1 hD gd c (by simpa using hl)
      exact o H' U2 m' D xs n
theorem cn_comp (own : List (Str × Nat)) (hi : CI T X tg iter ms) (hg : ∀ (s : Shared) (H : Hp) (C : Addr) (cl : List (Str × Addr)) (fp : List Addr), CG T (X.blk s H scope (compEnvC scope cl C X.env) fp) tg g vs)
    (ht : ∀ (s : Shared) (H : Hp) (C : Addr) (cl : List (Str × Addr)) (fp : List Addr), CTs T (X.blk s H scope (compEnvC scope cl C X.env) fp) ifs mt)
    (he : ∀ (s : Shared) (H : Hp) (C : Addr) (cl : List (Str × Addr)) (fp : List Addr), CE T (X.blk s H scope (compEnvC scope cl C X.env) fp) elt me)
    (ok : BlkOk X.N X.env.scope scope own := by exact blkOk_by (by rfl)) (hv : ∀ i ∈ vs, i ∈ own.map (·.2) := by decide)
    (hs : ∀ x, foldedSetIterable iter X.env x = pure x := by intro _; rfl) : CN T X (.ListComp elt [⟨tg, iter, ifs, 0⟩] scope pos) (eComp ms g mt me (own.map (·.2))) := fun xo W tk =>
  have bo : ∀ (s : Shared) (H : Hp) (C : Addr) (cl : List (Str × Addr)) (fp : List Addr), XOk T (X.blk s H scope (compEnvC scope cl C X.env) fp) := fun _ _ _ _ _ => ⟨xo.k, xo.calm, xo.nd, xo.un, xo.hd⟩
  pe_imp (pe_lc xo.calm xo.nd (hi xo W tk) ok (fun s H C cl fp => hg s H C cl fp (bo ..) W0 (Tk.none _)) (fun s H C cl fp => ht s H C cl fp (bo ..) W0 (Tk.none _)) (fun s H C cl fp => he s H C cl fp (bo ..) W0 (Tk.none _)) hs) fun σ H Q q => comp_run hv q
theorem comp2_run {W : WC} {own : List Nat} {σ : L2.St} {H : Hp} {Q : VK} (hv : ∀ i ∈ vs, i ∈ own) (hv1 : ∀ i ∈ vs1, i ∈ own1) (q : tN T W (eComp2 ms g mt ms1 g1 mt1 me own own1) σ H Q) : tLc2 (tI T W ms) (tG T W0 g vs) (tY T W0 mt) (tI T W0 ms1) (tG T W0 g1 vs1) (tY T W0 mt1) (tE T W0 me) own own1 σ H Q := by
  obtain ⟨U, m, r, h, hr, er, o⟩ := q
  refine ⟨U, m, r, h, hr, er, ?_⟩
  unfold eComp2 at o
  cases e0 : ms r h with
  | stuck => rw [e0] at o; exact o
  | exc _ _ => rw [e0] at o; exact o
  | ok src h1 =>
    rw [e0] at o
    intro H1 U1 m1 g0 hr1 J w D hD
    cases e1 : compLoop src g mt (eIn ms1 g1 mt1 me own1) own src.n 0 r h1 with
    | stuck => simp only [Res.bind, e1] at o; exact o.elim
    | exc e2 h2 => exact absurd e1 (compLoop_noexc _ _ _ _ _ _)
    | ok ys hF =>
      simp only [Res.bind, e1] at o
      by_cases hl0 : ys.length ≤ big
      · rw [if_pos hl0] at o
        have hl : ys.length ≤ sizeLine := big_line hl0
        have gw : Gw H1 U1 m1 (upd H1 D (.lst [])) (addU U1 D) m1 := (growU hD).gw hr1.sub
        refine comp_walk (tb := fun σ2 H3 Nx => tI T W0 ms1 σ2 H3 fun J1 H4 => ∃ W1 : Nat → Nat → Hp → Prop, (∃ m, W1 0 m H4) ∧ ∀ j k H, W1 j k H →
          (J1.stop j H ∧ Nx H) ∨ (J1.go j H ∧ ∃ Nx1 : Hp → Prop, (∀ H', Nx1 H' → ∃ k', k' < k ∧ W1 (j + 1) k' H') ∧ ∀ x H', J1.yld j H x H' → tG T W0 g1 vs1 x (wipe σ2 own1) H' fun σ3 H5 => wipe σ3 own1 = wipe σ2 own1 ∧ tY T W0 mt1 σ3 H5 fun b H6 =>
            if b = true then tE T W0 me σ3 H6 fun y H7 => ∃ acc, H7 D = some (.lst acc) ∧ acc.length < sizeLine ∧ Nx1 (upd H7 D (.lst (acc ++ [y]))) else Nx1 H6)) w hv gw (InC.start hr1 hD) ((hr.env (g0.trans (growU hD)) er)) e1 (by simpa using hl) ?_ fun H' U' m' gd c => ?_
        · intro σ2 H3 U3 m3 r2 h3 h3' accv ys3 Nx c er3 e hz k
          obtain ⟨src1, h4, e4, e5⟩ := bind_ok e
          refine ⟨U3, m3, r2, h3, c.hr, er3, ?_⟩
          rw [e4]
          intro H4 U4 m4 g4 hr4 J1 w1
          refine comp_walk (tb := fun σ3 H6 Nx1 => tE T W0 me σ3 H6 fun y H7 => ∃ acc, H7 D = some (.lst acc) ∧ acc.length < sizeLine ∧ Nx1 (upd H7 D (.lst (acc ++ [y])))) w1 hv1 .refl (c.step g4 hr4) (c.hr.env g4 er3) e5 hz (fun c er e hz k => body_one c er e hz k) fun H' U' m' gd c' => ?_
          exact k H' U' m' (g4.gd.trans gd) c'
        · obtain ⟨U2, xs, n⟩ := InC.nl' g0 hr1 hD gd c (by simpa using hl)
          exact o H' U2 m' D xs n
      · rw [if_neg hl0] at o; exact o.elim
theorem cn_comp2 (own : List (Str × Nat)) (own1 : List Nat) (hi : CI T X tg iter ms) (hg : ∀ (s : Shared) (H : Hp) (C : Addr) (cl : List (Str × Addr)) (fp : List Addr), CG T (X.blk s H scope (compEnvC scope cl C X.env) fp) tg g vs)
    (ht : ∀ (s : Shared) (H : Hp) (C : Addr) (cl : List (Str × Addr)) (fp : List Addr), CTs T (X.blk s H scope (compEnvC scope cl C X.env) fp) ifs mt)
    (hi1 : ∀ (s : Shared) (H : Hp) (C : Addr) (cl : List (Str × Addr)) (fp : List Addr), CI T (X.blk s H scope (compEnvC scope cl C X.env) fp) tg1 iter1 ms1)
    (hg1 : ∀ (s : Shared) (H : Hp) (C : Addr) (cl : List (Str × Addr)) (fp : List Addr), CG T (X.blk s H scope (compEnvC scope cl C X.env) fp) tg1 g1 vs1)
    (ht1 : ∀ (s : Shared) (H : Hp) (C : Addr) (cl : List (Str × Addr)) (fp : List Addr), CTs T (X.blk s H scope (compEnvC scope cl C X.env) fp) ifs1 mt1)
    (he : ∀ (s : Shared) (H : Hp) (C : Addr) (cl : List (Str × Addr)) (fp : List Addr), CE T (X.blk s H scope (compEnvC scope cl C X.env) fp) elt me)
    (ok : BlkOk X.N X.env.scope scope own := by exact blkOk_by (by rfl)) (hv : ∀ i ∈ vs, i ∈ own.map (·.2) := by decide) (hv1 : ∀ i ∈ vs1, i ∈ own1 := by decide) (hv2 : ∀ i ∈ own1, i ∈ own.map (·.2) := by decide)
    (hs : ∀ x, foldedSetIterable iter X.env x = pure x := by intro _; rfl) (hs1 : ∀ env x, foldedSetIterable iter1 env x = pure x := by intro _ _; rfl) :
    CN T X (.ListComp elt [⟨tg, iter, ifs, 0⟩, ⟨tg1, iter1, ifs1, 0⟩] scope pos) (eComp2 ms g mt ms1 g1 mt1 me (own.map (·.2)) own1) := fun xo W tk =>
  have bo : ∀ (s : Shared) (H : Hp) (C : Addr) (cl : List (Str × Addr)) (fp : List Addr), XOk T (X.blk s H scope (compEnvC scope cl C X.env) fp) := fun _ _ _ _ _ => ⟨xo.k, xo.calm, xo.nd, xo.un, xo.hd⟩
  pe_imp (pe_lc2 xo.calm xo.nd (hi xo W tk) ok hv2 (fun s H C cl fp => hg s H C cl fp (bo ..) W0 (Tk.none _)) (fun s H C cl fp => ht s H C cl fp (bo ..) W0 (Tk.none _)) (fun s H C cl fp => hi1 s H C cl fp (bo ..) W0 (Tk.none _)) (fun s H C cl fp => hg1 s H C cl fp (bo ..) W0 (Tk.none _)) (fun s H C cl fp => ht1 s H C cl fp (bo ..) W0 (Tk.none _)) (fun s H C cl fp => he s H C cl fp (bo ..) W0 (Tk.none _)) hs hs1) fun σ H Q q => comp2_run hv hv1 q
end
end SW

namespace SW
open PySem PySem.Spec PyProof.Rows L2

/-! ### sequences as they stand -/
def seqAt (v : Val) (h : PH) : Option (List Val) := match v with
  | .tup xs => some xs
  | .lst xs => some xs
  | .ins 0 xs => some xs
  | .ref l => (match h[l]? with | some (.lst xs) => some xs | _ => none)
  | _ => none
def Val.isTup : Val → Bool
  | .tup _ => true
  | _ => false
section
variable {T : Tab} {H : Hp} {U : Addr → Prop} {m : List (Option Addr)} {h : PH} {v : Val} {x : V} {vs : List Val}
theorem seq_rep (hr : HR T H U m h) (r : Rep T H U m v x) (e : seqAt v h = some vs) : ∃ a xs, x = .ref a ∧ Reps T H U m vs xs ∧ vs.length ≤ sizeLine ∧ (if v.isTup = true then SqT T.K H a xs else SqL T.K H a xs) := by
  cases v with
  | tup ys =>
    cases e
    cases r with
    | tup h0 h1 h2 => exact ⟨_, _, rfl, h2, h0, h1.t⟩
  | lst ys =>
    cases e
    cases r with
    | lst h0 h1 h2 h3 => exact ⟨_, _, rfl, h3, h0, .of h1⟩
  | ins c ys =>
    cases c with
    | zero =>
      cases e
      cases r with
      | scr h0 h1 h4 => exact ⟨_, _, rfl, h4, h0, h1.imp (·.1) id⟩
      | ins h0 _ _ _ _ => exact absurd h0 (by decide)
    | succ c => cases e
  | ref l =>
    simp only [seqAt] at e
    split at e
    · rename_i ys ey
      cases e
      cases r with
      | ref hl er =>
        rcases hr.obj l _ ey with ⟨_, e0⟩ | ⟨b, e1, xs, ea, rs, hz⟩
        · cases e0
        · exact ⟨b, xs, er b e1, rs, hz, .of ea⟩
    · cases e
  | _ => cases e
end
/-- what is walked, as it stands at each turn -/
def liveSrc (v : Val) (n : Nat) (f : Nat → List Val → Option Val) : Src := ⟨n, fun h i => (seqAt v h).bind (f i), fun h => match seqAt v h with | some ys => decide (ys.length ≤ n) | none => false⟩
def srcSeq (v : Val) : SM Src := fun h => match seqAt v h with
  | some xs => .ok (liveSrc v xs.length fun i ys => ys[i]?) h
  | none => .stuck
def srcEnum (v : Val) : SM Src := fun h => match seqAt v h with
  | some xs => if v.isTup = true then .stuck else .ok (liveSrc v xs.length fun i ys => (ys[i]?).map fun y => .ins 1 [.int i, y]) h
  | none => .stuck
def revSrc (v : Val) (n : Nat) : Src := ⟨n, fun h i => (seqAt v h).bind fun ys => if i < n then ys[n - 1 - i]? else none, fun h => true⟩
def srcRev (v : Val) : SM Src := fun h => match seqAt v h with
  | some xs => .ok (revSrc v xs.length) h
  | none => .stuck
def zipSrc (v w : Val) (n : Nat) : Src := ⟨n, fun h i => match seqAt v h, seqAt w h with
    | some xs, some ys => (match xs[i]?, ys[i]? with | some x, some y => some (.ins 1 [x, y]) | _, _ => none)
    | _, _ => none, fun h => match seqAt v h, seqAt w h with
    | some xs', some ys' => decide (xs'.length ≤ n) || decide (ys'.length ≤ n)
    | _, _ => false⟩
def srcZip (v w : Val) : SM Src := fun h => match seqAt v h, seqAt w h with
  | some xs, some ys => if v.isTup = w.isTup then .ok (zipSrc v w (min xs.length ys.length)) h else .stuck
  | _, _ => .stuck
/-- small enough for a range -/
abbrev sml (i : Int) : Bool := decide (-(2 ^ 62) ≤ i) && decide (i < 2 ^ 62)
def srcRng (lo c : Int) (n : Nat) : Src := ⟨n, fun _ i => some (.int (lo + (i : Nat) * c)), fun _ => true⟩
def srcUp (lo : Int) (n : Nat) : Src := ⟨n, fun _ i => some (.int (lo + (i : Nat))), fun _ => true⟩
def srcR (vs : List Val) : SM Src := fun h => match vs with
  | [.int j] => if sml j && decide (j ≤ 1000000) then .ok (srcUp 0 j.toNat) h else .stuck
  | [.int i, .int j] => if sml i && sml j && decide (j - i ≤ 1000000) then .ok (srcUp i (j - i).toNat) h else .stuck
  | [.int i, .int j, .int (-1)] => if sml i && sml j && decide (i - j ≤ 1000000) then .ok (srcRng i (-1) (i - j).toNat) h else .stuck
  | _ => .stuck
def sSeq1 (k : Val → SM Src) (me : Ex) : Ev → SM Src := fun r h => (me r h).bind k
def sRng (ms : List Ex) : Ev → SM Src := fun r h => (eArgs ms r h).bind srcR
def sZip (ms : List Ex) : Ev → SM Src := fun r h => (eArgs ms r h).bind fun vs h1 => match vs with | [v, w] => srcZip v w h1 | _ => .stuck
section
variable {T : Tab} {H H' : Hp} {U U' : Addr → Prop} {m m' : List (Option Addr)} {h h' : PH} {v w : Val} {x : V} {vs : List Val} {xs : List V} {a b : Addr}
/-- the sequence v, later -/
theorem later (hr : HR T H U m h) (r : Rep T H U m v (.ref a)) (g : Gw H U m H' U' m') (hr' : HR T H' U' m' h') {ys : List Val} (e : seqAt v h' = some ys) : ∃ zs, Reps T H' U' m' ys zs ∧ ys.length ≤ sizeLine ∧ (if v.isTup = true then SqT T.K H' a zs else SqL T.K H' a zs) := by
  obtain ⟨b, zs, q1, q2, q3, q4⟩ := seq_rep hr' (Rep.gr g hr.us r) e
  cases q1
  exact ⟨zs, q2, q3, q4⟩
theorem some_bind {α β : Type} {o : Option α} {f : α → Option β} {b : β} (e : o.bind f = some b) : ∃ a, o = some a ∧ f a = some b := by
  cases o with
  | none => cases e
  | some a => exact ⟨a, rfl, e⟩
theorem walk_tup (hr : HR T H U m h) (r : Rep T H U m v (.ref a)) (hv : v.isTup = true) {n : Nat} (hn : n ≤ sizeLine) : WalkS T (Itt T.K a) (liveSrc v n fun i ys => ys[i]?) H U m where
  size := hn
  go := by
    intro H' U' m' h' i u g hr' hi e
    obtain ⟨ys, e1, e2⟩ := some_bind e
    obtain ⟨zs, q1, q2, q3⟩ := later hr r g hr' e1
    rw [if_pos hv] at q3
    obtain ⟨z, ez, rz⟩ := q1.get e2
    exact ⟨⟨zs, z, q3, ez⟩, fun x H2 ⟨eH, k⟩ => by
      subst eH
      obtain rfl := Option.some.inj ((k zs q3).symm.trans ez)
      exact ⟨Ext.rfl', rz⟩⟩
  stop := by
    intro H' U' m' h' g hr' e
    simp only [liveSrc] at e
    split at e
    · rename_i ys e1
      obtain ⟨zs, q1, q2, q3⟩ := later hr r g hr' e1
      rw [if_pos hv] at q3
      exact ⟨zs, q3, by rw [← q1.length]; exact of_decide_eq_true e⟩
    · cases e
theorem walk_lst (hr : HR T H U m h) (r : Rep T H U m v (.ref a)) (hv : v.isTup = false) {n : Nat} (hn : n ≤ sizeLine) : WalkS T (Itl T.K a) (liveSrc v n fun i ys => ys[i]?) H U m where
  size := hn
  go := by
    intro H' U' m' h' i u g hr' hi e
    obtain ⟨ys, e1, e2⟩ := some_bind e
    obtain ⟨zs, q1, q2, q3⟩ := later hr r g hr' e1
    rw [if_neg (by rw [hv]; exact Bool.false_ne_true)] at q3
    obtain ⟨z, ez, rz⟩ := q1.get e2
    exact ⟨⟨zs, z, q3, ez⟩, fun x H2 ⟨eH, k⟩ => by
      subst eH
      obtain rfl := Option.some.inj ((k zs q3).symm.trans ez)
      exact ⟨Ext.rfl', rz⟩⟩
  stop := by
    intro H' U' m' h' g hr' e
    simp only [liveSrc] at e
    split at e
    · rename_i ys e1
      obtain ⟨zs, q1, q2, q3⟩ := later hr r g hr' e1
      rw [if_neg (by rw [hv]; exact Bool.false_ne_true)] at q3
      exact ⟨zs, q3, by rw [← q1.length]; exact of_decide_eq_true e⟩
    · cases e
theorem pair_size : (2 : Nat) ≤ sizeLine := by rw [sizeLine_eq]; omega
theorem rep_newpr {p : Addr} {vs : List Val} {xs : List V} (hr : HR T H U m h) (hp : H p = none) (r : Reps T H U m vs xs) (hz : vs.length ≤ sizeLine) : Rep T (upd H p (.tup xs)) U m (.ins 1 vs) (.ref p) := .pr hz (.inl (.inl upd_same)) (hr.reps_ext (ext_upd hp) r)
theorem walk_enum (hr : HR T H U m h) (r : Rep T H U m v (.ref a)) (hv : v.isTup = false) {n : Nat} (hn : n ≤ sizeLine) : WalkS T (Ite T.K a) (liveSrc v n fun i ys => (ys[i]?).map fun y => .ins 1 [.int i, y]) H U m where
  size := hn
  go := by
    intro H' U' m' h' i u g hr' hi e
    obtain ⟨ys, e1, e2⟩ := some_bind e
    obtain ⟨zs, q1, q2, q3⟩ := later hr r g hr' e1
    rw [if_neg (by rw [hv]; exact Bool.false_ne_true)] at q3
    dsimp only at e2
    cases e3 : ys[i]? with
    | none => rw [e3] at e2; cases e2
    | some y =>
      rw [e3] at e2; cases e2
      obtain ⟨z, ez, rz⟩ := q1.get e3
      exact ⟨⟨zs, z, q3, ez⟩, fun x H2 ⟨p, z', ex, hp, eH, k⟩ => by
        subst eH ex
        obtain rfl := Option.some.inj ((k zs q3).symm.trans ez)
        exact ⟨ext_upd hp, rep_newpr hr' hp (.cons (.int _) (.cons rz .nil)) pair_size⟩⟩
  stop := by
    intro H' U' m' h' g hr' e
    simp only [liveSrc] at e
    split at e
    · rename_i ys e1
      obtain ⟨zs, q1, q2, q3⟩ := later hr r g hr' e1
      rw [if_neg (by rw [hv]; exact Bool.false_ne_true)] at q3
      exact ⟨zs, q3, by rw [← q1.length]; exact of_decide_eq_true e⟩
    · cases e
theorem walk_zipT (hr : HR T H U m h) (r : Rep T H U m v (.ref a)) (r2 : Rep T H U m w (.ref b)) (hv : v.isTup = true) (hw : w.isTup = true) {n : Nat} (hn : n ≤ sizeLine) : WalkS T (RZ.ItzT T.K a b) (zipSrc v w n) H U m where
  size := hn
  go := by
    intro H' U' m' h' i u g hr' hi e
    unfold zipSrc at e
    dsimp only at e
    split at e
    · rename_i xs' ys' ex' ey'
      obtain ⟨xz, a1, a2, a3⟩ := later hr r g hr' ex'
      obtain ⟨yz, b1, b2, b3⟩ := later hr r2 g hr' ey'
      rw [hv, if_pos rfl] at a3
      rw [hw, if_pos rfl] at b3
      split at e
      · rename_i x0 y0 e1 e2
        cases e
        obtain ⟨z1, ez1, rz1⟩ := a1.get e1
        obtain ⟨z2, ez2, rz2⟩ := b1.get e2
        exact ⟨⟨xz, yz, z1, z2, a3, b3, ez1, ez2⟩, fun x H2 ⟨p, u1, u2, ex, hp, eH, k1, k2⟩ => by
          subst eH ex
          obtain rfl := Option.some.inj ((k1 xz a3).symm.trans ez1)
          obtain rfl := Option.some.inj ((k2 yz b3).symm.trans ez2)
          exact ⟨ext_upd hp, rep_newpr hr' hp (.cons rz1 (.cons rz2 .nil)) pair_size⟩⟩
      · cases e
    · cases e
  stop := by
    intro H' U' m' h' g hr' e
    simp only [zipSrc] at e
    split at e
    · rename_i xs' ys' ex' ey'
      obtain ⟨xz, a1, a2, a3⟩ := later hr r g hr' ex'
      obtain ⟨yz, b1, b2, b3⟩ := later hr r2 g hr' ey'
      rw [hv, if_pos rfl] at a3
      rw [hw, if_pos rfl] at b3
      simp only [Bool.or_eq_true, decide_eq_true_eq] at e
      exact ⟨xz, yz, a3, b3, by rw [← a1.length, ← b1.length]; exact e⟩
    · cases e
theorem walk_zipL (hr : HR T H U m h) (r : Rep T H U m v (.ref a)) (r2 : Rep T H U m w (.ref b)) (hv : v.isTup = false) (hw : w.isTup = false) {n : Nat} (hn : n ≤ sizeLine) : WalkS T (Itz T.K a b) (zipSrc v w n) H U m where
  size := hn
  go := by
    intro H' U' m' h' i u g hr' hi e
    unfold zipSrc at e
    dsimp only at e
    split at e
    · rename_i xs' ys' ex' ey'
      obtain ⟨xz, a1, a2, a3⟩ := later hr r g hr' ex'
      obtain ⟨yz, b1, b2, b3⟩ := later hr r2 g hr' ey'
      rw [hv, if_neg Bool.false_ne_true] at a3
      rw [hw, if_neg Bool.false_ne_true] at b3
      split at e
      · rename_i x0 y0 e1 e2
        cases e
        obtain ⟨z1, ez1, rz1⟩ := a1.get e1
        obtain ⟨z2, ez2, rz2⟩ := b1.get e2
        exact ⟨⟨xz, yz, z1, z2, a3, b3, ez1, ez2⟩, fun x H2 ⟨p, u1, u2, ex, hp, eH, k1, k2⟩ => by
          subst eH ex
          obtain rfl := Option.some.inj ((k1 xz a3).symm.trans ez1)
          obtain rfl := Option.some.inj ((k2 yz b3).symm.trans ez2)
          exact ⟨ext_upd hp, rep_newpr hr' hp (.cons rz1 (.cons rz2 .nil)) pair_size⟩⟩
      · cases e
    · cases e
  stop := by
    intro H' U' m' h' g hr' e
    simp only [zipSrc] at e
    split at e
    · rename_i xs' ys' ex' ey'
      obtain ⟨xz, a1, a2, a3⟩ := later hr r g hr' ex'
      obtain ⟨yz, b1, b2, b3⟩ := later hr r2 g hr' ey'
      rw [hv, if_neg Bool.false_ne_true] at a3
      rw [hw, if_neg Bool.false_ne_true] at b3
      simp only [Bool.or_eq_true, decide_eq_true_eq] at e
      exact ⟨xz, yz, a3, b3, by rw [← a1.length, ← b1.length]; exact e⟩
    · cases e
theorem walk_revT (hr : HR T H U m h) (r : Rep T H U m v (.ref a)) (hv : v.isTup = true) {n : Nat} (hn : n ≤ sizeLine) : WalkS T (RT.ItvT T.K a n) (revSrc v n) H U m where
  size := hn
  go := by
    intro H' U' m' h' i u g hr' hi e
    unfold revSrc at e hi
    dsimp only at e hi
    obtain ⟨zs0, e1, e2⟩ := some_bind e
    rw [if_pos hi] at e2
    obtain ⟨zs, p1, p2, p3⟩ := later hr r g hr' e1
    rw [hv, if_pos rfl] at p3
    obtain ⟨z, ez, rz⟩ := p1.get e2
    exact ⟨⟨hi, zs, z, p3, ez⟩, fun x H2 ⟨eH, k⟩ => by
      subst eH
      obtain rfl := Option.some.inj ((k zs p3).symm.trans ez)
      exact ⟨Ext.rfl', rz⟩⟩
  stop := fun g hr' e => Nat.le_refl _
theorem walk_revL (hr : HR T H U m h) (r : Rep T H U m v (.ref a)) (hv : v.isTup = false) {n : Nat} (hn : n ≤ sizeLine) : WalkS T (Itv T.K a n) (revSrc v n) H U m where
  size := hn
  go := by
    intro H' U' m' h' i u g hr' hi e
    unfold revSrc at e hi
    dsimp only at e hi
    obtain ⟨zs0, e1, e2⟩ := some_bind e
    rw [if_pos hi] at e2
    obtain ⟨zs, p1, p2, p3⟩ := later hr r g hr' e1
    rw [hv, if_neg Bool.false_ne_true] at p3
    obtain ⟨z, ez, rz⟩ := p1.get e2
    exact ⟨⟨hi, zs, z, p3, ez⟩, fun x H2 ⟨eH, k⟩ => by
      subst eH
      obtain rfl := Option.some.inj ((k zs p3).symm.trans ez)
      exact ⟨Ext.rfl', rz⟩⟩
  stop := fun g hr' e => Nat.le_refl _
theorem walk_up {lo : Int} {n : Nat} (hn : n ≤ sizeLine) : WalkS T (Itr lo n) (srcUp lo n) H U m where
  size := hn
  go := by
    intro H' U' m' h' i u g hr' hi e
    cases e
    exact ⟨hi, fun x H2 ⟨eH, ex⟩ => by subst eH ex; exact ⟨Ext.rfl', .int _⟩⟩
  stop := fun g hr' e => Nat.le_refl _
theorem walk_rng {lo c : Int} {n : Nat} (hn : n ≤ sizeLine) : WalkS T (Itc lo c n) (srcRng lo c n) H U m where
  size := hn
  go := by
    intro H' U' m' h' i u g hr' hi e
    cases e
    exact ⟨hi, fun x H2 ⟨eH, ex⟩ => by subst eH ex; exact ⟨Ext.rfl', .int _⟩⟩
  stop := fun g hr' e => Nat.le_refl _
end
section
variable {T : Tab} {X : Cx} {tg e e2 : Expr} {es : List Expr} {me : Ex} {ms : List Ex}
theorem ci_seq (he : CE T X e me) : CI T X tg e (sSeq1 srcSeq me) := fun ok W tk => ⟨fun pins s σ H R I ⟨U, m, r, h, hr, er, o⟩ => by
  cases em : me r h with
  | ok v h1 =>
    cases hv : v.isTup with
    | true =>
      refine (pi_tup (tg := tg) (he ok W tk)).run pins s σ H R I ⟨U, m, r, h, hr, er, ?_⟩
      rw [em]
      intro H1 U1 m1 g hr1 x rx
      simp only [sSeq1, em, Res.bind, srcSeq] at o
      split at o
      · rename_i xs ex
        obtain ⟨a, ys, rfl, q1, q2, q3⟩ := seq_rep hr1 rx ex
        rw [if_pos hv] at q3
        have w := walk_tup hr1 rx hv q2
        exact ⟨a, rfl, ⟨ys, by rw [ok.k]; exact q3⟩, by rw [ok.k]; exact o H1 U1 m1 g hr1 _ w⟩
      · exact o.elim
    | false =>
      refine (pi_list (tg := tg) (he ok W tk)).run pins s σ H R I ⟨U, m, r, h, hr, er, ?_⟩
      rw [em]
      intro H1 U1 m1 g hr1 x rx
      simp only [sSeq1, em, Res.bind, srcSeq] at o
      split at o
      · rename_i xs ex
        obtain ⟨a, ys, rfl, q1, q2, q3⟩ := seq_rep hr1 rx ex
        rw [if_neg (by rw [hv]; exact Bool.false_ne_true)] at q3
        have w := walk_lst hr1 rx hv q2
        exact ⟨a, rfl, ⟨ys, by rw [ok.k]; exact q3⟩, by rw [ok.k]; exact o H1 U1 m1 g hr1 _ w⟩
      · exact o.elim
  | exc _ _ =>
    refine (pi_list (tg := tg) (he ok W tk)).run pins s σ H R I ⟨U, m, r, h, hr, er, ?_⟩
    rw [em]
    simp only [sSeq1, em, Res.bind] at o
    exact o
  | stuck =>
    simp only [sSeq1, em, Res.bind] at o
    exact o.elim⟩
theorem ci_enum {p pos tpos : Pos} {elts : List Expr} {kk : Nat} (he : CE T X e me) (hg : Gl X "enumerate") (hm : X.mg "enumerate" = none) (hs : starEach [e] X.env = [(false, eval e X.env)] := by rfl) :
    CI T X (.Tuple elts kk tpos) (.Call (.Name "enumerate" p) [e] [] pos) (sSeq1 srcEnum me) := fun ok W tk => ⟨fun pins s σ H R I ⟨U, m, r, h, hr, er, o⟩ => by
  refine (pi_enum (tpos := tpos) (elts := elts) (kk := kk) hg hm (pa_cons (he ok W tk) pa_nil hs) hs).run pins s σ H R I ?_
  refine tE_then hr er o fun x H1 U1 m1 h1 v g1 hr1 er1 rx o1 => ?_
  unfold srcEnum at o1
  split at o1
  · rename_i xs ex
    split at o1
    · exact (show False from o1).elim
    · rename_i hv
      obtain ⟨a, ys, rfl, q1, q2, q3⟩ := seq_rep hr1 rx ex
      rw [if_neg hv] at q3
      have w := walk_enum hr1 rx (by simpa using hv) q2
      exact ⟨a, ys, rfl, by rw [ok.k]; exact q3, by rw [ok.k]; exact o1 H1 U1 m1 .refl hr1 _ w⟩
  · exact (show False from o1).elim⟩
theorem ci_range1 {p pos : Pos} (he : CE T X e me) (hg : Gl X "range") (hm : X.mg "range" = none) (hs : starEach [e] X.env = [(false, eval e X.env)] := by rfl) : CI T X tg (.Call (.Name "range" p) [e] [] pos) (sRng [me]) := fun ok W tk => ⟨fun pins s σ H R I ⟨U, m, r, h, hr, er, o⟩ => by
  refine (pi_range1 (tg := tg) hg hm ((ca_cons he ca_nil hs) ok W tk) hs).run pins s σ H R I ?_
  refine tA_then hr er o fun xs H1 U1 m1 h1 vs el g1 hr1 er1 rx o1 => ?_
  have hl := eArgs_len el
  cases rx with
  | nil => cases hl
  | cons r1 r2 =>
    cases r2 with
    | cons _ _ => cases hl
    | nil =>
      unfold srcR at o1
      split at o1
      · rename_i j hj
        cases hj
        split at o1
        · rename_i hc
          simp only [Bool.and_eq_true, decide_eq_true_eq] at hc
          cases r1
          refine ⟨j, rfl, hc.1.1, hc.1.2, o1 H1 U1 m1 .refl hr1 _ (walk_up (big_line (by unfold big; omega)))⟩
        · exact (show False from o1).elim
      · rename_i hj; cases hj
      · rename_i hj; cases hj
      · exact (show False from o1).elim⟩
theorem ci_range2 {p pos : Pos} {me2 : Ex} (he : CE T X e me) (he2 : CE T X e2 me2) (hg : Gl X "range") (hm : X.mg "range" = none) (hs : starEach [e, e2] X.env = [(false, eval e X.env), (false, eval e2 X.env)] := by rfl) (hs2 : starEach [e2] X.env = [(false, eval e2 X.env)] := by rfl) :
    CI T X tg (.Call (.Name "range" p) [e, e2] [] pos) (sRng [me, me2]) := fun ok W tk => ⟨fun pins s σ H R I ⟨U, m, r, h, hr, er, o⟩ => by
  refine (pi_range2 (tg := tg) hg hm ((ca_cons he (ca_cons he2 ca_nil hs2) (by rw [hs, hs2])) ok W tk) hs hs2).run pins s σ H R I ?_
  refine tA_then hr er o fun xs H1 U1 m1 h1 vs el g1 hr1 er1 rx o1 => ?_
  have hl := eArgs_len el
  cases rx with
  | nil => cases hl
  | cons r1 r2 =>
    cases r2 with
    | nil => cases hl
    | cons r2 r3 =>
      cases r3 with
      | cons _ _ => cases hl
      | nil =>
        unfold srcR at o1
        split at o1
        · rename_i hj; cases hj
        · rename_i i j hj
          cases hj
          split at o1
          · rename_i hc
            simp only [Bool.and_eq_true, decide_eq_true_eq] at hc
            cases r1
            cases r2
            refine ⟨i, j, rfl, ⟨hc.1.1.1, hc.1.1.2, hc.1.2.1, hc.1.2.2⟩, o1 H1 U1 m1 .refl hr1 _ (walk_up (big_line (by unfold big; omega)))⟩
          · exact (show False from o1).elim
        · rename_i hj; cases hj
        · exact (show False from o1).elim⟩
theorem ci_range3 {p pos : Pos} {e3 : Expr} {me2 me3 : Ex} (he : CE T X e me) (he2 : CE T X e2 me2) (he3 : CE T X e3 me3) (hg : Gl X "range") (hm : X.mg "range" = none)
    (hs : starEach [e, e2, e3] X.env = (false, eval e X.env) :: starEach [e2, e3] X.env := by rfl) (hs2 : starEach [e2, e3] X.env = (false, eval e2 X.env) :: starEach [e3] X.env := by rfl) (hs3 : starEach [e3] X.env = (false, eval e3 X.env) :: starEach [] X.env := by rfl)
    (hpl : (backTo pos (starEach [e2, e3] X.env)).any (·.1) = false := by rfl) :
    CI T X tg (.Call (.Name "range" p) [e, e2, e3] [] pos) (sRng [me, me2, me3]) := fun ok W tk => ⟨fun pins s σ H R I ⟨U, m, r, h, hr, er, o⟩ => by
  refine (pi_range3 (tg := tg) hg hm ((ca_cons he (ca_cons he2 (ca_cons he3 ca_nil hs3) hs2) hs) ok W tk) hs hpl).run pins s σ H R I ?_
  refine tA_then hr er o fun xs H1 U1 m1 h1 vs el g1 hr1 er1 rx o1 => ?_
  have hl := eArgs_len el
  cases rx with
  | nil => cases hl
  | cons r1 r2 =>
    cases r2 with
    | nil => cases hl
    | cons r2 r3 =>
      cases r3 with
      | nil => cases hl
      | cons r3 r4 =>
        cases r4 with
        | cons _ _ => cases hl
        | nil =>
          unfold srcR at o1
          split at o1
          · rename_i hj; cases hj
          · rename_i hj; cases hj
          · rename_i i j hj
            cases hj
            split at o1
            · rename_i hc
              simp only [Bool.and_eq_true, decide_eq_true_eq] at hc
              cases r1
              cases r2
              cases r3
              refine ⟨i, j, -1, (i - j).toNat, rfl, RgC.neg hc.1.1.1 hc.1.1.2 hc.1.2.1 hc.1.2.2, o1 H1 U1 m1 .refl hr1 _ (walk_rng (big_line (by unfold big; omega)))⟩
            · exact (show False from o1).elim
          · exact (show False from o1).elim⟩
theorem ci_rev {p pos : Pos} (he : CE T X e me) (hg : Gl X "reversed") (hm : X.mg "reversed" = none) (hs : starEach [e] X.env = (false, eval e X.env) :: starEach [] X.env := by rfl) :
    CI T X tg (.Call (.Name "reversed" p) [e] [] pos) (sSeq1 srcRev me) := fun ok W tk => ⟨fun pins s σ H R I ⟨U, m, r, h, hr, er, o⟩ => by
  refine (RT.pi_revA (tg := tg) hg hm (he ok W tk) hs).run pins s σ H R I ?_
  refine tE_then hr er o fun x H1 U1 m1 h1 v g1 hr1 er1 rx o1 => ?_
  unfold srcRev at o1
  split at o1
  · rename_i xs ex
    obtain ⟨a, ys, rfl, q1, q2, q3⟩ := seq_rep hr1 rx ex
    refine ⟨a, ys, rfl, ?_⟩
    have o2 := o1 H1 U1 m1 .refl hr1
    have hl := q1.length
    cases hv : v.isTup with
    | true =>
      rw [hv, if_pos rfl] at q3
      exact .inr ⟨by rw [ok.k]; exact q3, by rw [ok.k, ← hl]; exact o2 _ (walk_revT hr1 rx hv q2)⟩
    | false =>
      rw [hv, if_neg Bool.false_ne_true] at q3
      exact .inl ⟨by rw [ok.k]; exact q3, by rw [ok.k, ← hl]; exact o2 _ (walk_revL hr1 rx hv q2)⟩
  · exact (show False from o1).elim⟩
theorem ci_zip {p pos tpos : Pos} {elts : List Expr} {kk : Nat} {me2 : Ex} (he : CE T X e me) (he2 : CE T X e2 me2) (hg : Gl X "zip") (hm : X.mg "zip" = none)
    (hs : starEach [e, e2] X.env = (false, eval e X.env) :: starEach [e2] X.env := by rfl) (hs2 : starEach [e2] X.env = (false, eval e2 X.env) :: starEach [] X.env := by rfl) (hpl : (backTo pos (starEach [e2] X.env)).any (·.1) = false := by rfl) :
    CI T X (.Tuple elts kk tpos) (.Call (.Name "zip" p) [e, e2] [] pos) (sZip [me, me2]) := fun ok W tk => ⟨fun pins s σ H R I ⟨U, m, r, h, hr, er, o⟩ => by
  refine (RZ.pi_zipA (tpos := tpos) (elts := elts) (kk := kk) hg hm ((ca_cons he (ca_cons he2 ca_nil hs2) hs) ok W tk) hs hpl).run pins s σ H R I ?_
  refine tA_then hr er o fun xs H1 U1 m1 h1 vs el g1 hr1 er1 rx o1 => ?_
  have hl := eArgs_len el
  cases rx with
  | nil => cases hl
  | cons r1 r2 =>
    cases r2 with
    | nil => cases hl
    | cons r2 r3 =>
      cases r3 with
      | cons _ _ => cases hl
      | nil =>
        rename_i v x w' y
        have o1 : Out T H1 U1 m1 W (srcZip v w' h1) fun src _ H' U' m' => ∀ J, WalkS T J src H' U' m' → R J H' := o1
        unfold srcZip at o1
        split at o1
        · rename_i xs ys ex ey
          split at o1
          · rename_i hvw
            obtain ⟨a, xv, rfl, p1, p2, p3⟩ := seq_rep hr1 r1 ex
            obtain ⟨b, yv, rfl, q1, q2, q3⟩ := seq_rep hr1 r2 ey
            refine ⟨a, b, xv, yv, rfl, ?_⟩
            have o2 := o1 H1 U1 m1 .refl hr1
            have hsz : min xs.length ys.length ≤ sizeLine := Nat.le_trans (Nat.min_le_left _ _) p2
            cases hv : v.isTup with
            | true =>
              have hw : w'.isTup = true := hvw ▸ hv
              rw [hv, if_pos rfl] at p3
              rw [hw, if_pos rfl] at q3
              exact .inr ⟨by rw [ok.k]; exact p3, by rw [ok.k]; exact q3, by rw [ok.k]; exact o2 _ (walk_zipT hr1 r1 r2 hv hw hsz)⟩
            | false =>
              have hw : w'.isTup = false := hvw ▸ hv
              rw [hv, if_neg Bool.false_ne_true] at p3
              rw [hw, if_neg Bool.false_ne_true] at q3
              exact .inl ⟨by rw [ok.k]; exact p3, by rw [ok.k]; exact q3, by rw [ok.k]; exact o2 _ (walk_zipL hr1 r1 r2 hv hw hsz)⟩
          · exact (show False from o1).elim
        · exact (show False from o1).elim⟩
end
end SW

namespace SW
open PySem PySem.Spec PyProof.Rows L2

/-! ### values without located parts -/
mutual
def dv0 (f : Nat → Option Val) : Val → Option Val
  | .tup xs => (dvs0 f xs).map .tup
  | .lst xs => (dvs0 f xs).map .lst
  | .dct ks vs => (dvs0 f vs).map (.dct ks)
  | .ins c fs => (dvs0 f fs).map (.ins c)
  | .ref l => f l
  | v => some v
def dvs0 (f : Nat → Option Val) : List Val → Option (List Val)
  | [] => some []
  | v :: vs => match dv0 f v, dvs0 f vs with
    | some w, some ws => some (w :: ws)
    | _, _ => none
end
mutual
def free : Val → Bool
  | .tup xs => frees xs
  | .lst xs => frees xs
  | .dct _ vs => frees vs
  | .ins _ fs => frees fs
  | .ref _ => false
  | _ => true
def frees : List Val → Bool
  | [] => true
  | v :: vs => free v && frees vs
end
mutual
/-- tuples of atoms -/
def flat : Val → Bool
  | .tup xs => flats xs
  | .non => true
  | .bl _ => true
  | .int _ => true
  | .str _ => true
  | _ => false
def flats : List Val → Bool
  | [] => true
  | v :: vs => flat v && flats vs
end
/-- what a located object is, n deep -/
def dvF : Nat → PH → Nat → Option Val
  | 0, _ => fun _ => none
  | n + 1, h => fun l => match h[l]? with
    | some (.lst xs) => (dvs0 (dvF n h) xs).map .lst
    | some (.dct ks vs) => (dvs0 (dvF n h) vs).map (.dct ks)
    | some (.ins (c + 2) fs) => (dvs0 (dvF n h) fs).map (.ins (c + 2))
    | _ => none
/-- with the located objects' values in place, n deep -/
def dvN (n : Nat) (h : PH) : Val → Option Val := dv0 (dvF n h)
mutual
theorem dv0_free (f : Nat → Option Val) : ∀ {v : Val}, free v = true → dv0 f v = some v
  | .tup xs, h => by unfold dv0; rw [dvs0_free f (by simpa [free] using h)]; rfl
  | .lst xs, h => by unfold dv0; rw [dvs0_free f (by simpa [free] using h)]; rfl
  | .dct ks vs, h => by unfold dv0; rw [dvs0_free f (by simpa [free] using h)]; rfl
  | .ins c fs, h => by unfold dv0; rw [dvs0_free f (by simpa [free] using h)]; rfl
  | .ref _, h => by simp [free] at h
  | .non, _ => rfl
  | .bl _, _ => rfl
  | .int _, _ => rfl
  | .str _, _ => rfl
theorem dvs0_free (f : Nat → Option Val) : ∀ {vs : List Val}, frees vs = true → dvs0 f vs = some vs
  | [], _ => rfl
  | v :: vs, h => by
    simp only [frees, Bool.and_eq_true] at h
    unfold dvs0
    rw [dv0_free f h.1, dvs0_free f h.2]
end
theorem dvN_free {v : Val} (n : Nat) (h : PH) (e : free v = true) : dvN n h v = some v := by
  exact dv0_free _ e
theorem frees_all {vs : List Val} : frees vs = vs.all free := by
  induction vs with
  | nil => rfl
  | cons v vs ih => simp [frees, ih]
theorem flats_all {vs : List Val} : flats vs = vs.all flat := by
  induction vs with
  | nil => rfl
  | cons v vs ih => simp [flats, ih]
mutual
theorem flat_free : ∀ {v : Val}, flat v = true → free v = true
  | .tup xs, h => by unfold free; exact flats_frees (by simpa [flat] using h)
  | .non, _ => rfl
  | .bl _, _ => rfl
  | .int _, _ => rfl
  | .str _, _ => rfl
  | .lst _, h => by simp [flat] at h
  | .dct _ _, h => by simp [flat] at h
  | .ins _ _, h => by simp [flat] at h
  | .ref _, h => by simp [flat] at h
theorem flats_frees : ∀ {vs : List Val}, flats vs = true → frees vs = true
  | [], _ => rfl
  | v :: vs, h => by
    simp only [flats, Bool.and_eq_true] at h
    unfold frees
    rw [flat_free h.1, flats_frees h.2]; rfl
end
theorem dvs0_len {f : Nat → Option Val} : ∀ {vs ws : List Val}, dvs0 f vs = some ws → ws.length = vs.length
  | [], _, e => by cases e; rfl
  | v :: vs, _, e => by
    unfold dvs0 at e
    split at e
    · rename_i w ws e1 e2
      cases e
      simp [dvs0_len e2]
    · cases e
section
variable {T : Tab} {H : Hp} {U U' : Addr → Prop} {m m' : List (Option Addr)} {h : PH}
mutual
theorem dv0_rep {f : Nat → Option Val} (hU : ∀ a, U a → U' a) (hf : ∀ (l : Nat) (v : Val) (x : V), f l = some v → Rep T H U' m' (.ref l) x → Rep T H U m v x) : ∀ {v w : Val} {x : V}, dv0 f v = some w → Rep T H U' m' v x → Rep T H U m w x
  | .non, _, _, e, r => by cases e; cases r; exact .non
  | .bl _, _, _, e, r => by cases e; cases r; exact .bl _
  | .int _, _, _, e, r => by cases e; cases r; exact .int _
  | .str _, _, _, e, r => by cases e; cases r; exact .str _
  | .ref _, _, _, e, r => hf _ _ _ e r
  | .tup xs, _, _, e, r => by
    unfold dv0 at e
    cases q : dvs0 f xs with
    | none => rw [q] at e; cases e
    | some ys =>
      rw [q] at e; cases e
      cases r with
      | tup h0 h1 h2 => exact .tup (by rw [dvs0_len q]; exact h0) h1 (dvs0_rep hU hf q h2)
  | .lst xs, _, _, e, r => by
    unfold dv0 at e
    cases q : dvs0 f xs with
    | none => rw [q] at e; cases e
    | some ys =>
      rw [q] at e; cases e
      cases r with
      | lst h0 h1 h2 h3 => exact .lst (by rw [dvs0_len q]; exact h0) h1 (fun z => h2 (hU _ z)) (dvs0_rep hU hf q h3)
  | .dct ks xs, _, _, e, r => by
    unfold dv0 at e
    cases q : dvs0 f xs with
    | none => rw [q] at e; cases e
    | some ys =>
      rw [q] at e; cases e
      cases r with
      | dK h1 h2 h3 h4 => exact .dK h1 (fun z => h2 (hU _ z)) h3 (dvs0_rep hU hf q h4)
      | dT h1 h2 h3 h4 => exact .dT h1 (fun z => h2 (hU _ z)) h3 (dvs0_rep hU hf q h4)
  | .ins c xs, _, _, e, r => by
    unfold dv0 at e
    cases q : dvs0 f xs with
    | none => rw [q] at e; cases e
    | some ys =>
      rw [q] at e; cases e
      cases r with
      | scr h0 h1 h4 => exact .scr (by rw [dvs0_len q]; exact h0) (h1.imp (fun z => ⟨z.1, fun y => z.2 (hU _ y)⟩) id) (dvs0_rep hU hf q h4)
      | pr h0 h1 h2 => exact .pr (by rw [dvs0_len q]; exact h0) h1 (dvs0_rep hU hf q h2)
      | ins h0 h1 h2 h3 h4 => exact .ins h0 h1 h2 (fun z => h3 (hU _ z)) (dvs0_rep hU hf q h4)
theorem dvs0_rep {f : Nat → Option Val} (hU : ∀ a, U a → U' a) (hf : ∀ (l : Nat) (v : Val) (x : V), f l = some v → Rep T H U' m' (.ref l) x → Rep T H U m v x) : ∀ {vs ws : List Val} {xs : List V}, dvs0 f vs = some ws → Reps T H U' m' vs xs → Reps T H U m ws xs
  | [], _, _, e, r => by cases e; cases r; exact .nil
  | v :: vs, _, _, e, r => by
    unfold dvs0 at e
    split at e
    · rename_i w ws e1 e2
      cases e
      cases r with
      | cons r1 r2 => exact .cons (dv0_rep hU hf e1 r1) (dvs0_rep hU hf e2 r2)
    · cases e
end
theorem dvF_rep (hr : HR T H U' m' h) (hU : ∀ a, U a → U' a) (hN : ∀ a, Lv m' a → ¬ U a) : ∀ (n : Nat) (l : Nat) (w : Val) (x : V), dvF n h l = some w → Rep T H U' m' (.ref l) x → Rep T H U m w x
  | 0, l, w, x, e, r => by cases e
  | n + 1, l, w, x, e, r => by
    have ih := dvF_rep hr hU hN n
    unfold dvF at e
    cases r with
    | ref hl er =>
      split at e
      · rename_i xs ex
        rcases hr.obj l _ ex with ⟨_, e0⟩ | ⟨b, e1, xv, ea, rs, hz⟩
        · cases e0
        · obtain rfl := er b e1
          cases q : dvs0 (dvF n h) xs with
          | none => rw [q] at e; cases e
          | some ys =>
            rw [q] at e; cases e
            exact .lst (by rw [dvs0_len q]; exact hz) ea (hN b ⟨l, e1⟩) (dvs0_rep hU ih q rs)
      · rename_i ks xs ex
        rcases hr.obj l _ ex with ⟨_, e0⟩ | ⟨b, e1, ob⟩
        · cases e0
        · obtain rfl := er b e1
          cases q : dvs0 (dvF n h) xs with
          | none => rw [q] at e; cases e
          | some ys =>
            rw [q] at e; cases e
            rcases ob with ⟨kvs, a1, a2, a3⟩ | ⟨kvs, a1, a2, a3⟩
            · exact .dK a1 (hN b ⟨l, e1⟩) a2 (dvs0_rep hU ih q a3)
            · exact .dT a1 (hN b ⟨l, e1⟩) a2 (dvs0_rep hU ih q a3)
      · rename_i c fs ex
        rcases hr.obj l _ ex with ⟨_, e0⟩ | ⟨b, e1, dx, xs, a1, a2, a3⟩
        · cases e0
        · obtain rfl := er b e1
          cases q : dvs0 (dvF n h) fs with
          | none => rw [q] at e; cases e
          | some ys =>
            rw [q] at e; cases e
            exact .ins (Nat.le_add_left 2 c) a1 a2 (hN b ⟨l, e1⟩) (dvs0_rep hU ih q a3)
      · cases e
/-- the located objects, told as what is never written: none of them may be written in U -/
theorem dvN_rep (hr : HR T H U' m' h) (hU : ∀ a, U a → U' a) (hN : ∀ a, Lv m' a → ¬ U a) (n : Nat) {v w : Val} {x : V} (e : dvN n h v = some w) (r : Rep T H U' m' v x) : Rep T H U m w x :=
  dv0_rep hU (dvF_rep hr hU hN n) e r
mutual
theorem flat_rep : ∀ {v : Val} {x : V}, flat v = true → Rep T H U' m' v x → Rep T H U m v x
  | .tup xs, _, h, r => by
    cases r with
    | tup h0 h1 h2 => exact .tup h0 h1 (flats_rep (by simpa [flat] using h) h2)
  | .non, _, _, r => by cases r; exact .non
  | .bl _, _, _, r => by cases r; exact .bl _
  | .int _, _, _, r => by cases r; exact .int _
  | .str _, _, _, r => by cases r; exact .str _
  | .lst _, _, h, _ => by simp [flat] at h
  | .dct _ _, _, h, _ => by simp [flat] at h
  | .ins _ _, _, h, _ => by simp [flat] at h
  | .ref _, _, h, _ => by simp [flat] at h
theorem flats_rep : ∀ {vs : List Val} {xs : List V}, flats vs = true → Reps T H U' m' vs xs → Reps T H U m vs xs
  | [], _, _, r => by cases r; exact .nil
  | v :: vs, _, h, r => by
    simp only [flats, Bool.and_eq_true] at h
    cases r with
    | cons r1 r2 => exact .cons (flat_rep h.1 r1) (flats_rep h.2 r2)
end
theorem HR.nil (hr : HR T H U m h) : HR T H U [] [] := ⟨rfl, fun l k a e => by simp at e, fun a ⟨l, e⟩ => by simp at e, hr.us, fun l o e => by simp at e⟩
theorem HR.none (H : Hp) : HR T H (fun _ => False) [] [] := ⟨rfl, fun l k a e => by simp at e, fun a ⟨l, e⟩ => by simp at e, fun _ z => z.elim, fun l o e => by simp at e⟩
end

/-! ### defs -/
abbrev Dm := List Val → SM Val
def defRun (n : Nat) (ms : Stm) : Dm := fun vs h => (ms (vs.map some ++ List.replicate (n - vs.length) none) h).bind fun f h1 => match f with
  | .nx _ => .ok .non h1
  | .rt v => .ok v h1
  | _ => .stuck
/-- what a def promises -/
def spOf (T : Tab) (d : Dm) (n : Nat) : Sp := fun xs H Q E => ∃ U m h vs, HR T H U m h ∧ Reps T H U m vs xs ∧ xs.length = n ∧ Out T H U m E (d vs h) fun v _ H' U' m' => ∀ x, Rep T H' U' m' v x → Q x H'
theorem ER.start {T : Tab} {H : Hp} {U : Addr → Prop} {m : List (Option Addr)} {vs : List Val} {xs : List V} (N : List Str) (r : Reps T H U m vs xs) : ER T H U m (vs.map some ++ List.replicate (N.length - vs.length) none) (L2.start N xs) := by
  have hl := r.length
  refine ⟨by unfold L2.start; simp [hl], fun i v e => ?_⟩
  unfold L2.start
  by_cases hi : i < vs.length
  · rw [List.getElem?_append_left (by simpa using hi), List.getElem?_map] at e
    cases q : vs[i]? with
    | none => rw [q] at e; cases e
    | some w =>
      rw [q] at e; cases e
      obtain ⟨x, ex, rx⟩ := r.get q
      refine ⟨x, ?_, rx⟩
      rw [List.getElem?_append_left (by simp; omega), List.getElem?_map, ex]; rfl
  · rw [List.getElem?_append_right (by simpa using hi), List.getElem?_replicate] at e
    split at e <;> cases e
section
variable {T : Tab} {P : Program} {w : World} {K : PySem.W.Frag} {mg : Str → Option Value} {base : Heap}
/-- a def by its body -/
theorem fn_okX {x qual : Str} {st : Stmt} {f : Addr} {fd : FuncData} {N ps : List Str} {k : Nat} {ms : Stm} (hT : T.K = K) (F : Fun K x qual st f fd) (S : FnScope N ps (defScope st))
    (hb : ∀ (cdv : Value) (A : Around) (outer : List Env) (s : Shared) (H : Hp) (E : XK), Room k (A.deeper (envOfC qual (defScope st) s.heap.objs.size f cdv)) → CSs T (cxOf (L2.CX P w) P w K mg base N qual (defScope st) f cdv A outer s H E) (defBody st) ms) :
    FnOk P w K mg base (L2.CX P w) (k + 1) f fd ps (spOf T (defRun N.length ms) ps.length) := by
  refine F.okX S (fun vs H Q E h => ?_) fun cdv A outer s H xs Q E hr h => ?_
  · obtain ⟨_, _, _, _, _, _, e, _⟩ := h
    exact e
  · refine ⟨_, hb cdv A outer s H E hr ⟨hT.symm, rfl, S.nd, ?_, hr.hd⟩ (passes_of (K := fun e s'' => L2.CX P w outer H s E e s'') (E₁ := fun e' s'' => L2.CX P w outer H s E e' s'') rfl) E (Tk.of_takes (takes_of rfl rfl rfl (E₁ := fun e' s'' => L2.CX P w outer H s E e' s'') rfl)), ?_⟩
    · have := hr.un
      show (A.deeper _).units + 100 < cLine
      omega
    · obtain ⟨U, m, h0, vs, hr0, rv, _, o⟩ := h
      refine ⟨U, m, _, h0, hr0, ER.start N rv, (Out.bind hr0 o).mono fun fl h1 H1 U1 m1 g hr1 o1 => ?_⟩
      cases fl with
      | nx r => exact fun σ' er' => o1 H1 U1 m1 .refl hr1 .non .non
      | rt v => exact fun x rx => o1 H1 U1 m1 .refl hr1 x rx
      | bk r => exact (show False from o1).elim
      | ct r => exact (show False from o1).elim
end

/-! ### calls of defs -/
/-- on the caller's own objects -/
def eCallD (d : Dm) (ms : List Ex) : Ex := fun r h => (eArgs ms r h).bind fun vs h1 => d vs h1
/-- what an exception tells -/
def exFlat : Val → Bool
  | .ins _ [] => true
  | .ins _ [v] => flat v
  | _ => false
/-- apart from the caller's objects -/
def apart (d : Dm) (vs : List Val) : SM Val := fun h => if frees vs then (match d vs [] with
  | .ok v h2 => lift (dvN 3 h2 v) h
  | .exc e _ => if exFlat e then .exc e h else .stuck
  | .stuck => .stuck) else .stuck
def eCallP (d : Dm) (ms : List Ex) : Ex := eCallD (apart d) ms
/-- the same, its arguments as they stand: what is told back holds no list -/
def still (d : Dm) (vs : List Val) : SM Val := fun h => match dvs0 (dvF 3 h) vs with
  | some ws => (match d ws [] with
    | .ok v _ => if flat v then .ok v h else .stuck
    | .exc e _ => if exFlat e then .exc e h else .stuck
    | .stuck => .stuck)
  | none => .stuck
def eCallS (d : Dm) (ms : List Ex) : Ex := eCallD (still d) ms
/-- apart; what is told back is a new list -/
def apartN (d : Dm) (vs : List Val) : SM (List Val) := fun h => if frees vs then (match d vs [] with
  | .ok (.ref l) h2 => (match h2[l]? with
    | some (.lst xs) => if frees xs then .ok xs h else .stuck
    | _ => .stuck)
  | .ok _ _ => .stuck
  | .exc e _ => if exFlat e then .exc e h else .stuck
  | .stuck => .stuck) else .stuck
def eCallNP (d : Dm) (ms : List Ex) : Ev → SM (List Val) := fun r h => (eArgs ms r h).bind fun vs h1 => apartN d vs h1
section
variable {T : Tab} {H H' : Hp} {U U' : Addr → Prop} {m m' : List (Option Addr)} {h h2 : PH} {W : WC} {Q : VK} {vs : List Val} {xs : List V} {d : Dm}
theorem exr_flat {e : Val} {cls : Value} {dd : Option Addr} (he : exFlat e = true) (x : ExR T H' U' m' e cls dd) : ExR T H' U m e cls dd := by
  unfold exFlat at he
  split at he
  · exact x
  · obtain ⟨h1, d1, x1, f1, h2, h3, h4, h5⟩ := x
    exact ⟨h1, d1, x1, f1, h2, h3, h4, flat_rep he h5⟩
  · cases he
/-- how a run of d is asked -/
def Asked (T : Tab) (H : Hp) (W : WC) (d : Dm) (xs : List V) (Q : VK) : Prop := ∃ U m h vs, HR T H U m h ∧ Reps T H U m vs xs ∧ Out T H U m W (d vs h) fun v _ H' U' m' => ∀ x, Rep T H' U' m' v x → Q x H'
theorem apart_ok (hr : HR T H U m h) (rv : Reps T H U m vs xs) (o : Out T H U m W (apart d vs h) fun v _ H' U' m' => ∀ x, Rep T H' U' m' v x → Q x H') : Asked T H W d xs Q := by
  unfold apart at o
  split at o
  · rename_i hf
    refine ⟨U, [], [], vs, hr.nil, dvs0_rep (f := fun _ => none) (fun _ z => z) (fun _ _ _ e _ => by cases e) (dvs0_free _ hf) rv, ?_⟩
    split at o
    · rename_i v h2 e
      rw [e]
      intro H' U' m' g hr' x rx
      obtain ⟨w, ew⟩ := Out.lift_some o
      have ex : Ext H H' := fun a ob ea => g.keep a ob (fun ⟨l, z⟩ => by simp at z) ea
      have hU : ∀ a, U a → U' a := fun a z => g.up a z (fun q => by obtain ⟨u, e1, _⟩ := hr.us a z; rw [q] at e1; cases e1) fun ⟨l, z⟩ => by simp at z
      have hN : ∀ a, Lv m' a → ¬ U a := fun a ⟨l, z⟩ hu => hr.notin (g.ext.new l a (Nat.zero_le _) z) hu
      rw [ew] at o
      exact o H' U m (Gr.of_ext ex) (hr.ext ex) x (dvN_rep hr' hU hN 3 ew rx)
    · rename_i e h2 e1
      rw [e1]
      split at o
      · rename_i hf2
        intro H' U' m' cls dd g hr' xr
        have ex : Ext H H' := fun a ob ea => g.keep a ob (fun ⟨l, z⟩ => by simp at z) ea
        exact o H' U m cls dd (Gr.of_ext ex) (hr.ext ex) (exr_flat hf2 xr)
      · exact (show False from o).elim
    · exact (show False from o).elim
  · exact (show False from o).elim
theorem still_ok (hr : HR T H U m h) (rv : Reps T H U m vs xs) (o : Out T H U m W (still d vs h) fun v _ H' U' m' => ∀ x, Rep T H' U' m' v x → Q x H') : Asked T H W d xs Q := by
  unfold still at o
  split at o
  · rename_i ws ew
    refine ⟨fun _ => False, [], [], ws, HR.none H, dvs0_rep (fun _ z => z.elim) (dvF_rep hr (fun _ z => z.elim) (fun _ _ z => z) 3) ew rv, ?_⟩
    split at o
    · rename_i v h2 e
      rw [e]
      intro H' U' m' g hr' x rx
      have ex : Ext H H' := fun a ob ea => g.keep a ob (fun ⟨l, z⟩ => by simp at z) ea
      split at o
      · rename_i hf
        exact o H' U m (Gr.of_ext ex) (hr.ext ex) x (flat_rep hf rx)
      · exact (show False from o).elim
    · rename_i e h2 e1
      rw [e1]
      split at o
      · rename_i hf2
        intro H' U' m' cls dd g hr' xr
        have ex : Ext H H' := fun a ob ea => g.keep a ob (fun ⟨l, z⟩ => by simp at z) ea
        exact o H' U m cls dd (Gr.of_ext ex) (hr.ext ex) (exr_flat hf2 xr)
      · exact (show False from o).elim
    · exact (show False from o).elim
  · exact (show False from o).elim
theorem apartN_ok (hr : HR T H U m h) (rv : Reps T H U m vs xs) (o : OutN T H U m W (apartN d vs h) Q) : Asked T H W d xs Q := by
  unfold apartN at o
  split at o
  · rename_i hf
    refine ⟨U, [], [], vs, hr.nil, dvs0_rep (f := fun _ => none) (fun _ z => z) (fun _ _ _ e _ => by cases e) (dvs0_free _ hf) rv, ?_⟩
    split at o
    · rename_i l h2 e
      split at o
      · rename_i ys ey
        split at o
        · rename_i hfy
          rw [e]
          intro H' U' m' g hr' x rx
          have ex : Ext H H' := fun a ob ea => g.keep a ob (fun ⟨l, z⟩ => by simp at z) ea
          rcases hr'.obj l _ ey with ⟨_, e0⟩ | ⟨b, e1, xv, ea, rs, hz⟩
          · cases e0
          · cases rx with
            | ref hl er =>
              obtain rfl := er b e1
              have hb : H b = none := g.ext.new l b (Nat.zero_le _) e1
              have hU : ∀ a, addU U b a → U' a := fun a z => z.elim (fun z => g.up a z (fun q => by obtain ⟨u, e1, _⟩ := hr.us a z; rw [q] at e1; cases e1) fun ⟨l, z⟩ => by simp at z) fun z => z ▸ hr'.sub b ⟨l, e1⟩
              refine o H' U m b xv ⟨hr.notin hb, hr.notlv hb, hb, Gr.of_ext ex, ?_, ea, dvs0_rep (f := fun _ => none) hU (fun _ _ _ e _ => by cases e) (dvs0_free _ hfy) rs, hz⟩
              exact (hr.addU (o := .lst xv) hb True.intro).ext fun a ob e => by
                by_cases q : a = b
                · subst q; rw [upd_same] at e; cases e; exact ea
                · rw [upd_ne q] at e; exact ex a ob e
        · exact (show False from o).elim
      · exact (show False from o).elim
    · exact (show False from o).elim
    · rename_i e h2 e1
      rw [e1]
      split at o
      · rename_i hf2
        intro H' U' m' cls dd g hr' xr
        have ex : Ext H H' := fun a ob ea => g.keep a ob (fun ⟨l, z⟩ => by simp at z) ea
        exact o H' U m cls dd (Gr.of_ext ex) (hr.ext ex) (exr_flat hf2 xr)
      · exact (show False from o).elim
    · exact (show False from o).elim
  · exact (show False from o).elim
end
/-- a def as a caller knows it -/
structure Dk (T : Tab) (X : Cx) (x : Str) (n : Nat) (d : Dm) : Prop where
  ok : ∃ (k : Nat) (f : Addr) (fd : FuncData) (ps : List Str), ps.length = n ∧ FnOk X.prog X.w X.K X.mg X.base (L2.CX X.prog X.w) k f fd ps (spOf T d n) ∧ Room k X.A ∧ X.mg x = some (.ref f) ∧ PySem.W.keepIn X.K (.ref f) = true ∧ Binds X.K fd ps []
section
variable {T : Tab} {X : Cx} {e : Expr} {es : List Expr} {me : Ex} {ms : List Ex} {x : Str} {p pos : Pos} {n : Nat} {d : Dm}
theorem Asked.sp {H : Hp} {W : WC} {xs : List V} {Q : VK} (a : Asked T H W d xs Q) (hn : xs.length = n) : spOf T d n (xs ++ []) H Q W := by
  obtain ⟨U, m, h, vs, h1, h2, h3⟩ := a
  rw [List.append_nil]
  exact ⟨U, m, h, vs, h1, h2, hn, h3⟩
theorem pe_dk {t : TE} (D : Dk T X x n d) (hg : Gl X x) (ha : CA T X (e :: es) (eArgs ms)) (ok : XOk T X) {W : WC} (tk : Tk X W) (ht : ∀ σ H Q, t σ H Q → tA T W (eArgs ms) σ H fun xs H1 => Asked T H1 W d xs Q ∧ xs.length = n)
    (hdb : (x == ("__debug__" : Str)) = false := by decide) (he : starEach (e :: es) X.env = (false, eval e X.env) :: starEach es X.env := by rfl) (hpl : (backTo pos (starEach es X.env)).any (·.1) = false := by rfl) : PE X (.Call (.Name x p) (e :: es) [] pos) t := by
  obtain ⟨k, f, fd, ps, hn, F, hr, hm, hk, hb⟩ := D.ok
  refine pe_imp (pe_call (dvs := []) (ds := []) F hr hg hm hk hb .nil (E := W) (fun pins σ H s e s' I c => tk pins σ H s e s' W (fun _ _ _ h => h) I c) (ha ok W tk) hdb he hpl) fun σ H Q q => ?_
  have q1 := ht σ H Q q
  obtain ⟨U, m, r, h, hr0, er, o⟩ := q1
  exact ⟨U, m, r, h, hr0, er, o.mono fun vs h' H' U' m' g hr' k xs rx => let ⟨a, b⟩ := k xs rx; a.sp b⟩
theorem pe_dk0 {t : TE} (D : Dk T X x 0 d) (hg : Gl X x) (ok : XOk T X) {W : WC} (tk : Tk X W) (ht : ∀ σ H Q, t σ H Q → Asked T H W d [] Q) (hdb : (x == ("__debug__" : Str)) = false := by decide) : PE X (.Call (.Name x p) [] [] pos) t := by
  obtain ⟨k, f, fd, ps, hn, F, hr, hm, hk, hb⟩ := D.ok
  refine pe_imp (pe_call0 (dvs := []) (ds := []) F hr hg hm hk hb .nil (E := W) (fun pins σ H s e s' I c => tk pins σ H s e s' W (fun _ _ _ h => h) I c) hdb) fun σ H Q q => ?_
  exact (ht σ H Q q).sp rfl
theorem args_n {W : WC} {σ : L2.St} {H : Hp} {Q : VK} {d' : Dm} (hn : ms.length = n) (h : ∀ {H : Hp} {U : Addr → Prop} {m : List (Option Addr)} {h : PH} {vs : List Val} {xs : List V}, HR T H U m h → Reps T H U m vs xs → (Out T H U m W (d' vs h) fun v _ H' U' m' => ∀ x, Rep T H' U' m' v x → Q x H') → Asked T H W d xs Q)
    (q : tE T W (eCallD d' ms) σ H Q) : tA T W (eArgs ms) σ H fun xs H1 => Asked T H1 W d xs Q ∧ xs.length = n := by
  obtain ⟨U, m, r, h0, hr, er, o⟩ := q
  refine tA_then hr er o fun xs H1 U1 m1 h1 vs e1 g1 hr1 er1 rxs o1 => ⟨h hr1 rxs o1, ?_⟩
  rw [← rxs.length, eArgs_len e1, hn]
theorem ce_callD (D : Dk T X x n d) (hg : Gl X x) (ha : CA T X (e :: es) (eArgs ms)) (hn : ms.length = n := by rfl)
    (hdb : (x == ("__debug__" : Str)) = false := by decide) (he : starEach (e :: es) X.env = (false, eval e X.env) :: starEach es X.env := by rfl) (hpl : (backTo pos (starEach es X.env)).any (·.1) = false := by rfl) : CE T X (.Call (.Name x p) (e :: es) [] pos) (eCallD d ms) := fun ok W tk =>
  pe_dk D hg ha ok tk (fun σ H Q q => args_n hn (fun hr rv o => ⟨_, _, _, _, hr, rv, o⟩) q) hdb he hpl
theorem ce_callP (D : Dk T X x n d) (hg : Gl X x) (ha : CA T X (e :: es) (eArgs ms)) (hn : ms.length = n := by rfl)
    (hdb : (x == ("__debug__" : Str)) = false := by decide) (he : starEach (e :: es) X.env = (false, eval e X.env) :: starEach es X.env := by rfl) (hpl : (backTo pos (starEach es X.env)).any (·.1) = false := by rfl) : CE T X (.Call (.Name x p) (e :: es) [] pos) (eCallP d ms) := fun ok W tk =>
  pe_dk D hg ha ok tk (fun σ H Q q => args_n hn apart_ok q) hdb he hpl
theorem ce_callS (D : Dk T X x n d) (hg : Gl X x) (ha : CA T X (e :: es) (eArgs ms)) (hn : ms.length = n := by rfl)
    (hdb : (x == ("__debug__" : Str)) = false := by decide) (he : starEach (e :: es) X.env = (false, eval e X.env) :: starEach es X.env := by rfl) (hpl : (backTo pos (starEach es X.env)).any (·.1) = false := by rfl) : CE T X (.Call (.Name x p) (e :: es) [] pos) (eCallS d ms) := fun ok W tk =>
  pe_dk D hg ha ok tk (fun σ H Q q => args_n hn still_ok q) hdb he hpl
theorem ce_callD0 (D : Dk T X x 0 d) (hg : Gl X x) (hdb : (x == ("__debug__" : Str)) = false := by decide) : CE T X (.Call (.Name x p) [] [] pos) (eCallD d []) := fun ok W tk =>
  pe_dk0 D hg ok tk (fun σ H Q ⟨U, m, r, h, hr, er, o⟩ => ⟨U, m, h, [], hr, .nil, o⟩) hdb
theorem ce_callP0 (D : Dk T X x 0 d) (hg : Gl X x) (hdb : (x == ("__debug__" : Str)) = false := by decide) : CE T X (.Call (.Name x p) [] [] pos) (eCallP d []) := fun ok W tk =>
  pe_dk0 D hg ok tk (fun σ H Q ⟨U, m, r, h, hr, er, o⟩ => apart_ok hr .nil o) hdb
theorem cn_callNP0 (D : Dk T X x 0 d) (hg : Gl X x) (hdb : (x == ("__debug__" : Str)) = false := by decide) : CN T X (.Call (.Name x p) [] [] pos) (eCallNP d []) := fun ok W tk =>
  pe_dk0 D hg ok tk (fun σ H Q ⟨U, m, r, h, hr, er, o⟩ => apartN_ok hr .nil o) hdb
theorem argsN_n {W : WC} {σ : L2.St} {H : Hp} {Q : VK} (hn : ms.length = n) (q : tN T W (eCallNP d ms) σ H Q) : tA T W (eArgs ms) σ H fun xs H1 => Asked T H1 W d xs Q ∧ xs.length = n := by
  obtain ⟨U, m, r, h0, hr, er, o⟩ := q
  refine ⟨U, m, r, h0, hr, er, ?_⟩
  unfold eCallNP at o
  cases e1 : eArgs ms r h0 with
  | ok vs h1 =>
    rw [e1] at o
    intro H1 U1 m1 g hr1 xs rx
    refine ⟨apartN_ok hr1 rx ?_, by rw [← rx.length, eArgs_len e1, hn]⟩
    have o : OutN T H U m W (apartN d vs h1) Q := o
    cases e2 : apartN d vs h1 with
    | ok ys h2 =>
      rw [e2] at o
      exact fun H' U' m' p zs nl => o H' U' m' p zs ⟨nl.nu, nl.nm, g.fresh nl.fr, hr.trans hr1 g nl.gr, nl.hr, nl.at_, nl.reps, nl.size⟩
    | exc _ _ =>
      rw [e2] at o
      exact fun H' U' m' cls dd g' hr' xr => o H' U' m' cls dd (hr.trans hr1 g g') hr' xr
    | stuck => rw [e2] at o; exact o
  | exc _ _ => rw [e1] at o; exact o
  | stuck => rw [e1] at o; exact o
theorem cn_callNP (D : Dk T X x n d) (hg : Gl X x) (ha : CA T X (e :: es) (eArgs ms)) (hn : ms.length = n := by rfl)
    (hdb : (x == ("__debug__" : Str)) = false := by decide) (he : starEach (e :: es) X.env = (false, eval e X.env) :: starEach es X.env := by rfl) (hpl : (backTo pos (starEach es X.env)).any (·.1) = false := by rfl) : CN T X (.Call (.Name x p) (e :: es) [] pos) (eCallNP d ms) := fun ok W tk =>
  pe_dk D hg ha ok tk (fun σ H Q q => argsN_n hn q) hdb he hpl
end
end SW

namespace SW
open PySem PySem.Spec PyProof.Rows L2

/-! ### what is never reached -/
def eStuck : Ex := fun _ _ => .stuck
def sStuck : Stm := fun _ _ => .stuck
section
variable {T : Tab} {X : Cx} {e : Expr} {st : Stmt} {pos : Pos} {x : Str} {n : Nat} {d : Dm}
theorem ce_stuck : CE T X e eStuck := fun ok W tk => ⟨fun pins s σ H Q I ⟨U, m, r, h, _, _, o⟩ => (show False from o).elim⟩
theorem ct_stuck : CT T X e eStuck := fun ok W tk => ⟨fun pins s σ H Q I ⟨U, m, r, h, _, _, o⟩ => (show False from o).elim⟩
theorem cs_stuck : CS T X st sStuck := fun ok po W tk => ⟨fun pins s σ H D I ⟨U, m, r, h, _, _, o⟩ => (show False from o).elim⟩

/-! ### constants of the text -/
/-- the name x of the text stands for v -/
structure Gk (T : Tab) (mg : Str → Option Value) (x : Str) (v : Val) : Prop where
  ok : ∃ (u : Value) (y : V), mg x = some u ∧ RelV y u ∧ ∀ H U m, Rep T H U m v y
theorem ce_glob {v : Val} (G : Gk T X.mg x v) (hg : Gl X x) (hd : (x == ("__debug__" : Str)) = false := by decide) : CE T X (.Name x pos) (eC v) := fun ok W tk => by
  obtain ⟨u, y, hm, r, k⟩ := G.ok
  exact ce_const (pe_glob hg hm r hd) k ok W tk
theorem gk_int {mg : Str → Option Value} {i : Int} {t : Tok} (h : mg x = some (.int i t)) : Gk T mg x (.int i) := ⟨_, .int i, h, ⟨t, rfl⟩, fun _ _ _ => .int i⟩
theorem gk_str {mg : Str → Option Value} {i : Str} {t : Tok} (h : mg x = some (.str i t)) : Gk T mg x (.str i) := ⟨_, .str i, h, ⟨t, rfl⟩, fun _ _ _ => .str i⟩
end
/-- a value of the text's own, read out -/
def rdK (K : PySem.W.Frag) : Nat → Value → Option Val
  | 0, _ => none
  | n + 1, v => match v with
    | .none => some .non
    | .bool b => some (.bl b)
    | .int i _ => some (.int i)
    | .str x _ => some (.str x)
    | .ref a => match K.lookup a with
      | some o => match o.cls, o.data, o.dict with
        | .type c, .seq its _, none => if c = "tuple" ∧ its.size ≤ 100000 then (its.toList.mapM (rdK K n)).map .tup else none
        | _, _, _ => none
      | none => none
    | _ => none
theorem rdK_ok {K : PySem.W.Frag} {cA : Nat → Addr} {cF : Nat → List Str} : ∀ (n : Nat) {v : Value} {t : Val}, rdK K n v = some t → ∃ y, RelV y v ∧ ∀ H U m, Rep ⟨K, cA, cF⟩ H U m t y
  | 0, v, t, e => by cases e
  | n + 1, v, t, e => by
    have ih : ∀ {its : List Value} {ts : List Val}, its.mapM (rdK K n) = some ts → ∃ ys, Vals ys its ∧ ∀ H U m, Reps ⟨K, cA, cF⟩ H U m ts ys := by
      intro its
      induction its with
      | nil => intro ts e; simp at e; subst e; exact ⟨[], .nil, fun _ _ _ => .nil⟩
      | cons i its ih2 =>
        intro ts e
        simp only [List.mapM_cons, Option.bind_eq_bind, Option.pure_def] at e
        cases q1 : rdK K n i with
        | none => rw [q1] at e; cases e
        | some t1 =>
          rw [q1] at e
          cases q2 : List.mapM (rdK K n) its with
          | none => rw [q2] at e; cases e
          | some t2 =>
            rw [q2] at e; cases e
            obtain ⟨y1, r1, k1⟩ := rdK_ok n q1
            obtain ⟨y2, r2, k2⟩ := ih2 q2
            exact ⟨y1 :: y2, .cons r1 r2, fun H U m => .cons (k1 H U m) (k2 H U m)⟩
    unfold rdK at e
    split at e
    · cases e; exact ⟨.non, rfl, fun _ _ _ => .non⟩
    · cases e; exact ⟨.bl _, rfl, fun _ _ _ => .bl _⟩
    · cases e; exact ⟨.int _, ⟨_, rfl⟩, fun _ _ _ => .int _⟩
    · cases e; exact ⟨.str _, ⟨_, rfl⟩, fun _ _ _ => .str _⟩
    · rename_i a
      split at e
      · rename_i o ho
        split at e
        · rename_i c its k hc hd hdn
          split at e
          · rename_i hz
            cases q : its.toList.mapM (rdK K n) with
            | none => rw [q] at e; cases e
            | some ts =>
              rw [q] at e; cases e
              obtain ⟨ys, r, k1⟩ := ih q
              have hs : its.size ≤ sizeLine := Nat.le_trans hz.2 (by rw [sizeLine_eq]; decide)
              refine ⟨.ref a, rfl, fun H U m => .tup ?_ (.inr ⟨o, its, k, ho, by rw [hc, hz.1], hdn, hd, hs, r⟩) (k1 H U m)⟩
              rw [(k1 H U m).length, r.length]
              simpa using hs
          · cases e
        · cases e
      · cases e
    · cases e
theorem gk_rd {K : PySem.W.Frag} {cA : Nat → Addr} {cF : Nat → List Str} {mg : Str → Option Value} {x : Str} {u : Value} {t : Val} (hm : mg x = some u) (n : Nat) (e : rdK K n u = some t) : Gk ⟨K, cA, cF⟩ mg x t := by
  obtain ⟨y, r, k⟩ := rdK_ok n e
  exact ⟨u, y, hm, r, k⟩
/-! ### defs as the others know them -/
structure Df (P : Program) (w : World) (K : PySem.W.Frag) (mg : Str → Option Value) (base : Heap) (T : Tab) (k : Nat) (x : Str) (n : Nat) (d : Dm) : Prop where
  ok : ∃ (f : Addr) (fd : FuncData) (ps : List Str), ps.length = n ∧ FnOk P w K mg base (L2.CX P w) k f fd ps (spOf T d n) ∧ mg x = some (.ref f) ∧ PySem.W.keepIn K (.ref f) = true ∧ Binds K fd ps []
theorem Df.dk {T : Tab} {X : Cx} {k : Nat} {x : Str} {n : Nat} {d : Dm} (D : Df X.prog X.w X.K X.mg X.base T k x n d) (hr : Room k X.A) : Dk T X x n d := by
  obtain ⟨f, fd, ps, h1, h2, h3, h4, h5⟩ := D.ok
  exact ⟨k, f, fd, ps, h1, h2, hr, h3, h4, h5⟩
section
variable {T : Tab} {P : Program} {w : World} {K : PySem.W.Frag} {mg : Str → Option Value} {base : Heap}
theorem Df.mk' {x qual : Str} {st : Stmt} {f : Addr} {fd : FuncData} {ps : List Str} {k : Nat} {d : Dm} (F : Fun K x qual st f fd) (G : FnOk P w K mg base (L2.CX P w) k f fd ps (spOf T d ps.length)) (hm : mg x = some (.ref f)) (hb : Binds K fd ps []) : Df P w K mg base T k x ps.length d :=
  ⟨f, fd, ps, rfl, G, hm, F.kp, hb⟩
/-- a def that calls itself: d n with n turns to go -/
theorem rec_ok {f : Addr} {fd : FuncData} {ps : List Str} {k : Nat} {d : Nat → Dm} (h0 : ∀ vs h, d 0 vs h = .stuck) (hs : ∀ n, FnOk P w K mg base (L2.CX P w) (k + n) f fd ps (spOf T (d n) ps.length) → FnOk P w K mg base (L2.CX P w) (k + (n + 1)) f fd ps (spOf T (d (n + 1)) ps.length)) :
    ∀ n, FnOk P w K mg base (L2.CX P w) (k + n) f fd ps (spOf T (d n) ps.length)
  | 0 => ⟨fun vs H Q E ⟨_, _, _, _, _, _, e, _⟩ => e, fun A outer s H args us vs Q E _ _ _ _ ⟨U, m, h, ws, _, _, _, o⟩ => by rw [h0] at o; exact (show False from o).elim⟩
  | n + 1 => hs n (rec_ok h0 hs n)
end

/-! ### the law -/
theorem ints_rep {T : Tab} {H : Hp} {U : Addr → Prop} {m : List (Option Addr)} : ∀ ns : List Int, Reps T H U m (ns.map Val.int) (ns.map V.int)
  | [] => .nil
  | n :: ns => .cons (.int n) (ints_rep ns)
theorem law_sp {K : PySem.W.Frag} {cA : Nat → Addr} {cF : Nat → List Str} {d : Dm} (hL : ∀ ns : List Int, ns.length ≤ 63 → ∃ h', d [.ins 0 (ns.map Val.int)] [] = .ok (.bl true) h') {H : Hp} {a : Addr} {ns : List Int} (hl : ns.length ≤ 63) (hS : SqL K H a (ns.map V.int)) :
    spOf ⟨K, cA, cF⟩ d 1 [.ref a] H (fun v _ => v = .bl true) fun _ _ _ => False := by
  obtain ⟨h', e⟩ := hL ns hl
  refine ⟨fun _ => False, [], [], [.ins 0 (ns.map Val.int)], HR.none H, .cons (.scr (by rw [List.length_map]; exact big_line (Nat.le_trans hl (by decide))) (hS.imp (fun z => ⟨z, fun y => y⟩) id) (ints_rep ns)) .nil, rfl, ?_⟩
  rw [e]
  intro H' U' m' g hr x rx
  cases rx; rfl
theorem law_cx {P : Program} (w : World) (H : Hp) (s : Shared) (e : Value) (s' : Shared) (c : L2.CX P w [] H s (fun _ _ _ => False) e s') : False := by
  obtain ⟨_, _, _, _, _, _, _, _, _, _, _, _, q⟩ := c
  exact q
end SW

namespace SW
open PySem PySem.Spec PyProof.Rows L2

/-! ### names that are built in -/
theorem bb_len : bootBuiltins "len" = some (.builtin "len") := by decide +kernel
theorem bb_abs : bootBuiltins "abs" = some (.builtin "abs") := by decide +kernel
theorem bb_max : bootBuiltins "max" = some (.builtin "max") := by decide +kernel
theorem bb_min : bootBuiltins "min" = some (.builtin "min") := by decide +kernel
theorem bb_all : bootBuiltins "all" = some (.builtin "all") := by decide +kernel
theorem bb_any : bootBuiltins "any" = some (.builtin "any") := by decide +kernel
theorem bb_sum : bootBuiltins "sum" = some (.builtin "sum") := by decide +kernel
theorem bb_sorted : bootBuiltins "sorted" = some (.builtin "sorted") := by decide +kernel
theorem bb_repr : bootBuiltins "repr" = some (.builtin "repr") := by decide +kernel
theorem bb_isinstance : bootBuiltins "isinstance" = some (.builtin "isinstance") := by decide +kernel
theorem bb_int : bootBuiltins "int" = some (.type "int") := by decide +kernel
theorem bb_bool : bootBuiltins "bool" = some (.type "bool") := by decide +kernel
theorem bb_str : bootBuiltins "str" = some (.type "str") := by decide +kernel
theorem bb_tuple : bootBuiltins "tuple" = some (.type "tuple") := by decide +kernel
theorem bb_list : bootBuiltins "list" = some (.type "list") := by decide +kernel
theorem bb_dict : bootBuiltins "dict" = some (.type "dict") := by decide +kernel
theorem bb_set : bootBuiltins "set" = some (.type "set") := by decide +kernel

/-! ### o[i] = v -/
def gPut (h : PH) (x y v : Val) : Option PH := match x with
  | .ref l => match h[l]? with
    | some (.lst xs) => match y with
      | .int k => (ixN xs.length k).map fun j => h.set l (.lst (xs.set j v))
      | _ => none
    | _ => none
  | _ => none
def gStore (o i : Ex) : TGm := fun v r h => (o r h).bind fun x h1 => (i r h1).bind fun y h2 => match gPut h2 x y v with
  | some h3 => .ok r h3
  | none => .stuck
section
variable {T : Tab} {X : Cx} {pos : Pos} {o i : Expr} {mo mi : Ex}
theorem put_ok {W : WC} {H : Hp} {U : Addr → Prop} {m : List (Option Addr)} {h : PH} {x y v : Val} {xv yv vv : V} {r : Ev} {Kq : Ev → PH → Hp → (Addr → Prop) → List (Option Addr) → Prop} {Q : Hp → Prop} (hr : HR T H U m h) (rx : Rep T H U m x xv) (ry : Rep T H U m y yv) (rv : Rep T H U m v vv)
    (q : Out T H U m W (match gPut h x y v with | some h3 => Res.ok r h3 | none => .stuck) Kq) (k : ∀ H' h', Gr H U m H' U m → HR T H' U m h' → Kq r h' H' U m → Q H') : rSetL xv yv vv H Q := by
  cases e : gPut h x y v with
  | none => rw [e] at q; exact (show False from q).elim
  | some h3 =>
    rw [e] at q
    unfold gPut at e
    split at e
    · rename_i l
      split at e
      · rename_i xs ex
        split at e
        · rename_i kk
          cases ej : ixN xs.length kk with
          | none => rw [ej] at e; cases e
          | some j =>
            rw [ej] at e; cases e
            rcases hr.obj l _ ex with ⟨_, e0⟩ | ⟨a, e1, xs', ea, rs, hz⟩
            · cases e0
            · cases rx with
              | ref hl er =>
                obtain rfl := er a e1
                cases ry
                have g : Gr H U m (upd H a (.lst (xs'.set j vv))) U m := Gr.write ⟨l, e1⟩
                have hr' := hr.write (o := .lst (xs'.set j vv)) (v := .lst (xs.set j v)) e1 ⟨_, upd_same, hr.reps g (rs.set rv j), by rw [List.length_set]; exact hz⟩
                refine ⟨a, xs', kk, j, rfl, rfl, ea, by rw [← rs.length]; exact ej, k _ _ g hr' (q _ U m g hr')⟩
        · cases e
      · cases e
    · cases e
theorem cg_store (ho : CE T X o mo) (hi : CE T X i mi)
    (ha : ∀ v, assign (.Subscript o i pos) X.env v = (do
      let ov ← holding [v] (eval o X.env)
      let iv ← holding [v, ov] (eval i X.env)
      standAt pos
      holding [v, ov, iv] (setItem ov iv v)
      release [v, ov, iv] []) := by intro _; rfl) : CG T X (.Subscript o i pos) (gStore mo mi) [] := fun ok W tk =>
  pg_imp (pg_sub (ho ok W tk) (hi ok W tk) set_list ha) fun v σ H Q ⟨U, m, r, h, vm, hr, er, rv, q⟩ => by
    refine tE_then hr er q fun x H1 U1 m1 h1 xm g1 hr1 er1 rx q1 => ?_
    refine tE_then hr1 er1 q1 fun y H2 U2 m2 h2 ym g2 hr2 er2 ry q2 => ?_
    exact put_ok hr2 (hr1.rep g2 rx) ry (hr1.rep g2 (hr.rep g1 rv)) q2 fun H' h' g hr' kq => kq σ (hr2.env g er2) .refl
end

/-! ### y = [..] on one line -/
section
variable {T : Tab} {X : Cx} {elt tg iter tg1 iter1 : Expr} {ifs ifs1 : List Expr} {scope : Scope} {pos spos py : Pos} {ms ms1 : Ev → SM Src} {g g1 : TGm} {mt mt1 : Option Ex} {me : Ex} {vs vs1 : List Nat} {y : Str}
/-- how the new list is kept: eFrz, eLoc -/
def Kept (kp : (Ev → SM (List Val)) → Ex) : Prop := ∀ {T : Tab} {W : WC} {mn : Ev → SM (List Val)} {σ : L2.St} {H : Hp} {Q : VK}, tE T W (kp mn) σ H Q → tN T W mn σ H Q
theorem kept_frz : Kept eFrz := fun q => frz_run q
theorem kept_loc : Kept eLoc := fun q => loc_run q
theorem asg_run {W : WC} {kp : (Ev → SM (List Val)) → Ex} (hk : Kept kp) {mn : Ev → SM (List Val)} {i : Nat} {D : Ends} {σ : L2.St} {H : Hp} (q : tS T W (sAsg (kp mn) (gSet i)) D σ H) : tN T W mn σ H fun x H1 => gName i x σ H1 D.nx := by
  obtain ⟨U, m, r, h, hr, er, o⟩ := q
  refine hk (tE_then hr er o fun y H1 U1 m1 h1 v g1 hr1 er1 ry o1 => ?_)
  exact o1 H1 U1 m1 .refl hr1 _ (er1.set ry)
theorem cs_setLc {kp : (Ev → SM (List Val)) → Ex} (hk : Kept kp) (i : Nat) (own : List (Str × Nat)) (hi : CI T X tg iter ms) (hg : ∀ (s : Shared) (H : Hp) (C : Addr) (cl : List (Str × Addr)) (fp : List Addr), CG T (X.blk s H scope (compEnvC scope cl C X.env) fp) tg g vs)
    (ht : ∀ (s : Shared) (H : Hp) (C : Addr) (cl : List (Str × Addr)) (fp : List Addr), CTs T (X.blk s H scope (compEnvC scope cl C X.env) fp) ifs mt)
    (he : ∀ (s : Shared) (H : Hp) (C : Addr) (cl : List (Str × Addr)) (fp : List Addr), CE T (X.blk s H scope (compEnvC scope cl C X.env) fp) elt me)
    (hy : X.N[i]? = some y := by rfl) (hyl : X.env.scope.names.lookup y = some .local := by rfl)
    (hsw : swapsWith (.ListComp elt [⟨tg, iter, ifs, 0⟩] scope pos) (some (.Name y py)) spos.line X.env = pure true := by exact sw_true rfl rfl rfl (by decide +kernel))
    (ok : BlkOk X.N X.env.scope scope own := by exact blkOk_by (by rfl)) (hv : ∀ i ∈ vs, i ∈ own.map (·.2) := by decide)
    (hs : ∀ x, foldedSetIterable iter X.env x = pure x := by intro _; rfl) : CS T X (.Assign [.Name y py] (.ListComp elt [⟨tg, iter, ifs, 0⟩] scope pos) spos) (sAsg (kp (eComp ms g mt me (own.map (·.2)))) (gSet i)) := fun xo po W tk =>
  have bo : ∀ (s : Shared) (H : Hp) (C : Addr) (cl : List (Str × Addr)) (fp : List Addr), XOk T (X.blk s H scope (compEnvC scope cl C X.env) fp) := fun _ _ _ _ _ => ⟨xo.k, xo.calm, xo.nd, xo.un, xo.hd⟩
  ps_imp (ps_setLc xo.calm xo.nd hy hyl hsw (hi xo W tk) ok (fun s H C cl fp => hg s H C cl fp (bo ..) W0 (Tk.none _)) (fun s H C cl fp => ht s H C cl fp (bo ..) W0 (Tk.none _)) (fun s H C cl fp => he s H C cl fp (bo ..) W0 (Tk.none _)) hs) fun D σ H q => comp_run hv (asg_run hk q)
theorem cs_setLc2 {kp : (Ev → SM (List Val)) → Ex} (hk : Kept kp) (i : Nat) (own : List (Str × Nat)) (own1 : List Nat) (hi : CI T X tg iter ms) (hg : ∀ (s : Shared) (H : Hp) (C : Addr) (cl : List (Str × Addr)) (fp : List Addr), CG T (X.blk s H scope (compEnvC scope cl C X.env) fp) tg g vs)
    (ht : ∀ (s : Shared) (H : Hp) (C : Addr) (cl : List (Str × Addr)) (fp : List Addr), CTs T (X.blk s H scope (compEnvC scope cl C X.env) fp) ifs mt)
    (hi1 : ∀ (s : Shared) (H : Hp) (C : Addr) (cl : List (Str × Addr)) (fp : List Addr), CI T (X.blk s H scope (compEnvC scope cl C X.env) fp) tg1 iter1 ms1)
    (hg1 : ∀ (s : Shared) (H : Hp) (C : Addr) (cl : List (Str × Addr)) (fp : List Addr), CG T (X.blk s H scope (compEnvC scope cl C X.env) fp) tg1 g1 vs1)
    (ht1 : ∀ (s : Shared) (H : Hp) (C : Addr) (cl : List (Str × Addr)) (fp : List Addr), CTs T (X.blk s H scope (compEnvC scope cl C X.env) fp) ifs1 mt1)
    (he : ∀ (s : Shared) (H : Hp) (C : Addr) (cl : List (Str × Addr)) (fp : List Addr), CE T (X.blk s H scope (compEnvC scope cl C X.env) fp) elt me)
    (hy : X.N[i]? = some y := by rfl) (hyl : X.env.scope.names.lookup y = some .local := by rfl)
    (hsw : swapsWith (.ListComp elt [⟨tg, iter, ifs, 0⟩, ⟨tg1, iter1, ifs1, 0⟩] scope pos) (some (.Name y py)) spos.line X.env = pure true := by exact sw_true rfl rfl rfl (by decide +kernel))
    (ok : BlkOk X.N X.env.scope scope own := by exact blkOk_by (by rfl)) (hv : ∀ i ∈ vs, i ∈ own.map (·.2) := by decide) (hv1 : ∀ i ∈ vs1, i ∈ own1 := by decide) (hv2 : ∀ i ∈ own1, i ∈ own.map (·.2) := by decide)
    (hs : ∀ x, foldedSetIterable iter X.env x = pure x := by intro _; rfl) (hs1 : ∀ env x, foldedSetIterable iter1 env x = pure x := by intro _ _; rfl) :
    CS T X (.Assign [.Name y py] (.ListComp elt [⟨tg, iter, ifs, 0⟩, ⟨tg1, iter1, ifs1, 0⟩] scope pos) spos) (sAsg (kp (eComp2 ms g mt ms1 g1 mt1 me (own.map (·.2)) own1)) (gSet i)) := fun xo po W tk =>
  have bo : ∀ (s : Shared) (H : Hp) (C : Addr) (cl : List (Str × Addr)) (fp : List Addr), XOk T (X.blk s H scope (compEnvC scope cl C X.env) fp) := fun _ _ _ _ _ => ⟨xo.k, xo.calm, xo.nd, xo.un, xo.hd⟩
  ps_imp (ps_setLc2 xo.calm xo.nd hy hyl hsw (hi xo W tk) ok hv2 (fun s H C cl fp => hg s H C cl fp (bo ..) W0 (Tk.none _)) (fun s H C cl fp => ht s H C cl fp (bo ..) W0 (Tk.none _)) (fun s H C cl fp => hi1 s H C cl fp (bo ..) W0 (Tk.none _)) (fun s H C cl fp => hg1 s H C cl fp (bo ..) W0 (Tk.none _)) (fun s H C cl fp => ht1 s H C cl fp (bo ..) W0 (Tk.none _)) (fun s H C cl fp => he s H C cl fp (bo ..) W0 (Tk.none _)) hs hs1) fun D σ H q => comp2_run hv hv1 (asg_run hk q)
end

/-! ### a constant's place -/
/-- the constant tuple x of the text stands for vs, and it is an object of the text's own -/
structure GkT (T : Tab) (mg : Str → Option Value) (x : Str) (vs : List Val) : Prop where
  ok : ∃ (a : Addr) (o : Obj), mg x = some (.ref a) ∧ T.K.lookup a = some o ∧ o.cls = .type "tuple" ∧ o.dict = none ∧ ∀ H U m, Rep T H U m (.tup vs) (.ref a)
theorem GkT.gk {T : Tab} {mg : Str → Option Value} {x : Str} {vs : List Val} (G : GkT T mg x vs) : Gk T mg x (.tup vs) := by
  obtain ⟨a, o, h1, h2, h3, h4, h5⟩ := G.ok
  exact ⟨_, .ref a, h1, rfl, h5⟩
theorem gkT_rd {K : PySem.W.Frag} {cA : Nat → Addr} {cF : Nat → List Str} {mg : Str → Option Value} {x : Str} {a : Addr} {o : Obj} {vs : List Val} (hm : mg x = some (.ref a)) (lk : K.lookup a = some o) (hc : o.cls = .type "tuple") (hd : o.dict = none) (n : Nat) (e : rdK K n (.ref a) = some (.tup vs)) : GkT ⟨K, cA, cF⟩ mg x vs := by
  obtain ⟨y, r, k1⟩ := rdK_ok (cA := cA) (cF := cF) n e
  refine ⟨a, o, hm, lk, hc, hd, fun H U m => ?_⟩
  have q := k1 H U m
  cases q with
  | tup h0 h1 h2 =>
    have e2 : Value.ref a = Value.ref _ := r
    cases e2
    exact .tup h0 h1 h2
def idxB (p : Val → Bool) : List Val → Option Nat
  | [] => none
  | v :: vs => if p v then some 0 else (idxB p vs).map (· + 1)
def gIndexC (vs : List Val) (h : PH) (y : Val) : Option Val := if dats vs 60 && dat (view h y) 60 then (idxB (fun z => veq z (view h y)) vs).map fun j => .int j else none
theorem idxB_spec {p : Val → Bool} : ∀ {vs : List Val} {j : Nat}, idxB p vs = some j → (∃ v, vs[j]? = some v ∧ p v = true) ∧ ∀ m v, m < j → vs[m]? = some v → p v = false
  | v :: vs, j, e => by
    unfold idxB at e
    split at e
    · rename_i h
      cases e
      exact ⟨⟨v, rfl, h⟩, fun m w hm _ => by omega⟩
    · rename_i h
      cases q : idxB p vs with
      | none => rw [q] at e; cases e
      | some k =>
        rw [q] at e; cases e
        obtain ⟨⟨w, h1, h2⟩, h3⟩ := idxB_spec q
        refine ⟨⟨w, by simpa using h1, h2⟩, fun m w hm hw => ?_⟩
        cases m with
        | zero => simp at hw; subst hw; simpa using h
        | succ m => exact h3 m w (by have hm : m + 1 < k + 1 := hm; omega) (by simpa using hw)
def rIdxC (T : Tab) (vs : List Val) : V → List V → Hp → VK → Prop := fun x xs H Q => ∃ U m h a ys y yv j, x = .ref a ∧ xs = [yv] ∧ HR T H U m h ∧ Reps T H U m vs ys ∧ SqT T.K H a ys ∧ Rep T H U m y yv ∧ dats vs 60 = true ∧ dat (view h y) 60 = true ∧
  idxB (fun z => veq z (view h y)) vs = some j ∧ Q (.int (j : Nat)) H
section
variable {T : Tab} {X : Cx}
theorem dats_get : ∀ {vs : List Val} {n m : Nat} {v : Val}, dats vs n = true → vs[m]? = some v → dat v n = true
  | w :: vs, n, 0, v, h, e => by
    simp only [dats, Bool.and_eq_true] at h
    simp at e; subst e; exact h.1
  | w :: vs, n, m + 1, v, h, e => by
    simp only [dats, Bool.and_eq_true] at h
    exact dats_get (m := m) h.2 (by simpa using e)
theorem mt_idxC (ok : XOk T X) (vs : List Val) : MtR X "tuple.index" (rIdxC T vs) := by
  intro pins s σ H x xs v us Q I rx rs h
  obtain ⟨U, m, hh, a, ys, y, yv, j, rfl, rfl, hr, rys, hq, ry, d1, d2, ej, q⟩ := h
  cases rx
  cases rs with
  | cons ru rt =>
    rename_i u us'
    cases rt
    obtain ⟨its, r, pl, hz⟩ := I.tuple (by rw [ok.k]; exact hq)
    obtain ⟨⟨cls, dd, dt, sl⟩, ho, hc, n, hd⟩ := pl
    simp only at hc hd
    subst hc
    subst hd
    obtain ⟨bs, q2⟩ := reads_of ok.k I hr ry ru d2
    have p2 := dat_plain _ _ d2
    have hl : its.toArray.size = vs.length := by rw [List.size_toArray, ← r.length, rys.length]
    obtain ⟨⟨w, ew, hw⟩, hno⟩ := idxB_spec ej
    have hj : j < its.toArray.size := by rw [hl]; exact (List.getElem?_eq_some_iff.mp ew).1
    have hu := ok.un
    have at_ : ∀ (k : Nat) (hk : k < its.toArray.size), ∃ z, vs[k]? = some z ∧ SeqAt.EqAt X.A.in1 s its.toArray[k] u (veq z (view hh y)) := fun k hk => by
      have hk' : k < vs.length := by rw [← hl]; exact hk
      obtain ⟨yk, e1, rk⟩ := rys.get (i := k) (List.getElem?_eq_getElem hk')
      obtain ⟨ik, e2, rik⟩ := r.get e1
      have dk := dats_get d1 (List.getElem?_eq_getElem hk')
      refine ⟨vs[k], List.getElem?_eq_getElem hk', ?_⟩
      have ei : its.toArray[k] = ik := by
        have := (List.getElem?_eq_some_iff.mp e2).2
        simpa using this
      rw [ei]
      obtain ⟨as, q1⟩ := Dp.reads I _ _ _ (by rw [ok.k]; exact Rep.dp _ _ _ dk rk) rik
      have p1 := dat_plain _ _ dk
      rw [← veq_ok _ _ _ _ dk d2]
      refine PySem.SeqAt.eqAt_plain _ _ _ _ _ _ _ _ q1 q2 p1.1 p2.1 ?_
      have hd' : min (toD vs[k]).depth (toD (view hh y)).depth ≤ 60 := min_dep p1.2
      show X.A.units + 1 + _ < cLine
      omega
    refine call_meets PySem.F.slot_tuple_index ⟨_, ho, rfl⟩ PySem.F.entry_tuple_index (PySem.F.args_tuple_index_2 _ _)
      (PySem.SeqAt.tuple_index2_found a its.toArray n dd sl u (fun k => match vs[k]? with | some z => veq z (view hh y) | none => false) j hj (Nat.zero_le _) hj ?_ ?_) ⟨ho, fun k hk => ?_, ⟨.int (j : Nat), H, I.tok _, ⟨_, rfl⟩, q⟩⟩
    · rw [ew]; exact hw
    · intro k hk _ hkj
      have hk' : k < vs.length := by rw [← hl]; exact hk
      rw [List.getElem?_eq_getElem hk']
      exact hno k _ hkj (List.getElem?_eq_getElem hk')
    · obtain ⟨z, ez, hz'⟩ := at_ k hk
      rw [ez]; exact hz'
theorem ce_idxC {x : Str} {e : Expr} {me : Ex} {vs : List Val} {p apos cpos : Pos} (G : GkT T X.mg x vs) (hg : Gl X x) (he : CE T X e me) (hd : (x == ("__debug__" : Str)) = false := by decide)
    (hbase : attributeBase (.Name x p) "index" X.env (eval (.Name x p) X.env) = eval (.Name x p) X.env := by rfl)
    (hfew : ((backTo cpos (starEach [e] X.env)).all (fun x => !x.1) && (backToKw cpos (keywordEach [] X.env)).all (fun x => x.1.isSome)
      && decide ([e].length + ([] : List Keyword).length + (if ([] : List Keyword).isEmpty then 0 else 1) < 30)) = true := by rfl)
    (hline : (apos.endLine == cpos.line) = true := by rfl) (hs : starEach [e] X.env = (false, eval e X.env) :: starEach [] X.env := by rfl) (hplain : (backTo cpos (starEach [] X.env)).any (·.1) = false := by rfl) :
    CE T X (.Call (.Attribute (.Name x p) "index" apos) [e] [] cpos) (eUn (gIndexC vs) me) := fun ok W tk => by
  obtain ⟨a, o, h1, h2, h3, h4, h5⟩ := G.ok
  refine pe_imp (pe_bm PySem.F.plainAttrs_tuple PySem.F.slot_tuple_index PySem.F.type_tuple_index (mt_idxC ok vs) (pe_glob hg h1 (v := .ref a) rfl hd) (pa_cons (he ok W tk) pa_nil hs) hbase hfew hline hs hplain) fun σ H Q ⟨U, m, r, h, hr, er, oo⟩ => ?_
  refine ⟨.inr (.inl ⟨rfl, o, by rw [ok.k]; exact h2, h3, h4⟩), ?_⟩
  refine tE_then hr er oo fun y H1 U1 m1 hh1 v g1 hr1 er1 ry o1 => ?_
  obtain ⟨z, ez⟩ := Out.lift_some o1
  have e0 := ez
  unfold gIndexC at ez
  split at ez
  · rename_i hc
    rw [Bool.and_eq_true] at hc
    cases ej : idxB (fun z => veq z (view hh1 v)) vs with
    | none => rw [ej] at ez; cases ez
    | some j =>
      rw [ej] at ez; cases ez
      cases h5 H1 U1 m1 with
      | tup z0 z1 z2 => exact ⟨U1, m1, hh1, a, _, v, y, j, rfl, rfl, hr1, z2, z1.t, ry, hc.1, hc.2, ej, Out.pure hr1 o1 Ext.rfl' e0 _ (.int _)⟩
  · cases ez
end
end SW

namespace SW
open PySem PySem.Spec PyProof.Rows L2

/-! ### sorting tuples of which some are empty -/
section
variable {prog : Program} {w : World} {A : Around} {E : Value → Shared → Prop} {s : Shared}
theorem kl_general (x y : Value) : keyLt' general' x y = oneLt' false x y := rfl
theorem one_tup {xs ys : List PyData} {a b : Value} {as bs : List Addr} {Q : Bool → Shared → Prop} (ra : Reads s.heap a (.tuple xs) as) (rb : Reads s.heap b (.tuple ys) bs) (hal : W.alikeAll xs ys = true) (hu : A.units + min (PyData.tuple xs).depth (PyData.tuple ys).depth < cLine) (hq : Q (W.dataLt (.tuple xs) (.tuple ys)) s) :
    wpAny (model prog w) A (oneLt' true a b) Q E s := by
  cases ra with
  | @tuple l o vs n _ as₁ h1 h2 h3 h4 =>
    cases rb with
    | @tuple l' o' vs' n' _ bs₁ k1 k2 k3 k4 =>
      have n1 : vs.size = xs.length := by simpa using SeqAt.ReadsAll.length _ _ _ h4
      have n2 : vs'.size = ys.length := by simpa using SeqAt.ReadsAll.length _ _ _ k4
      rw [W.dataLt_tuple, ← W.firstLt_toks xs ys hal, ← n1, ← n2] at hq
      rw [oneLt'_eq]
      simp only [if_true]
      obtain ⟨cls, dd, data, sl⟩ := o
      obtain ⟨cls', dd', data', sl'⟩ := o'
      simp only at h2 h3 k2 k3
      subst h2 h3 k2 k3
      refine wpAny_bind (wpAny_cRoomFor (SeqAt.room_here hu) (wpAny_bind (wpAny_callSpecialIfBound?_slot (T := "tuple") ⟨_, h1, rfl⟩ F.slot_tuple_lt (call_meets F.slot_tuple_lt ⟨_, h1, rfl⟩ F.entry_tuple_lt (F.args_tuple_lt_2 _ _)
        (SeqAt.tuple_ltAt l l' vs vs' n n' dd dd' sl sl' (SeqAt.pairEq xs ys) fun j => W.dataLt (xs.getD j .none) (ys.getD j .none)) ⟨h1, k1, fun j j1 j2 => ?_, fun j j1 j2 hj => ?_, ?_⟩))))
      · have := W.eqAt_alikeAll xs ys A.in1 s vs.toList vs'.toList _ _ h4 k4 hal (SeqAt.room_in hu) j (by simpa using j1) (by simpa using j2)
        simpa using this
      · have := W.rcLt_alikeAll xs ys A.in1 s vs.toList vs'.toList _ _ h4 k4 hal (SeqAt.room_in hu) j (by simpa using j1) (by simpa using j2) hj
        simpa using this
      · exact wpAny_truthy_bool hq
theorem mapM_fun {α β : Type} {M : Model} {f : α → Sem β} {g : α → β} : ∀ (l : List α) {Q : List β → Shared → Prop}, (∀ v ∈ l, ∀ (Q' : β → Shared → Prop), Q' (g v) s → wpAny M A (f v) Q' E s) → Q (l.map g) s → wpAny M A (l.mapM f) Q E s
  | [], _, _, h => by rw [List.mapM_nil]; exact wpAny_pure h
  | x :: l, Q, hf, h => by
    rw [List.mapM_cons]
    exact wpAny_bind (hf x (List.mem_cons_self ..) _ (wpAny_bind (mapM_fun (g := g) l (fun v hv => hf v (List.mem_cons_of_mem _ hv)) (wpAny_pure h))))
/-- a tuple's first item -/
def firstAt (h : Heap) (v : Value) : Option Value := match v with
  | .ref l => (match h.get? l with | some o => (match o.data with | .seq xs _ => xs[0]? | _ => none) | none => none)
  | _ => none
theorem first_run {v : Value} {xs : List PyData} {as : List Addr} (r : Reads s.heap v (.tuple xs) as) (Q : Option Value → Shared → Prop) (h : Q (firstAt s.heap v) s) : wpAny (model prog w) A (firstOfTuple' v) Q E s := by
  cases r with
  | @tuple l o vs n _ as₁ h1 h2 h3 h4 =>
    have e : firstAt s.heap (.ref l) = vs[0]? := by simp [firstAt, h1, h3]
    rw [e] at h
    rw [W.kas_first_eq]
    refine wpAny_bind (wpAny_typeOf (T := "tuple") ⟨o, h1, h2⟩ ?_)
    rw [if_neg (by decide)]
    exact wpAny_bind (listItems_at h1 h3 (wpAny_pure h))
theorem first_none {v : Value} {as : List Addr} (r : Reads s.heap v (.tuple []) as) : firstAt s.heap v = none := by
  cases r with
  | @tuple l o vs n _ as₁ h1 h2 h3 h4 =>
    have n1 : vs.size = 0 := by simpa using SeqAt.ReadsAll.length _ _ _ h4
    simp [firstAt, h1, h3, n1]
theorem type_run {v : Value} {xs : List PyData} {as : List Addr} (r : Reads s.heap v (.tuple xs) as) (Q : Value → Shared → Prop) (h : Q (.type "tuple") s) : wpAny (model prog w) A (typeOf v) Q E s := by
  cases r with
  | @tuple l o vs n _ as₁ h1 h2 h3 h4 => exact wpAny_typeOf (T := "tuple") ⟨o, h1, h2⟩ h
/-- tuples that read as alike data, one at least empty -/
theorem sorts_tups {vs : List Value} {ds : List PyData} (e : W.EachIs (fun v d => ∃ as, Reads s.heap v d as) vs ds) (hal : W.AllAlike ds) (ht : ∀ d ∈ ds, ∃ xs, d = .tuple xs) (hn : PyData.tuple [] ∈ ds) (hu : ∀ d, d ∈ ds → A.units + d.depth < cLine) :
    W.SortsAt prog w A s (W.dataKind s.heap ds) vs := by
  have room : ∀ {d d' : PyData}, d ∈ ds → A.units + min d.depth d'.depth < cLine := fun {d d'} hd => Nat.lt_of_le_of_lt (Nat.add_le_add_left (Nat.min_le_left _ _) _) (hu d hd)
  have rd : ∀ v ∈ vs, ∃ xs as, Reads s.heap v (.tuple xs) as := fun v hv => by
    obtain ⟨d, hd, as, r⟩ := e.left v hv
    obtain ⟨xs, rfl⟩ := ht d hd
    exact ⟨xs, as, r⟩
  have em : ∃ v ∈ vs, firstAt s.heap v = none := by
    have : ∀ {vs : List Value} {ds : List PyData}, W.EachIs (fun v d => ∃ as, Reads s.heap v d as) vs ds → PyData.tuple [] ∈ ds → ∃ v ∈ vs, ∃ as, Reads s.heap v (.tuple []) as := by
      intro vs ds e
      induction e with
      | nil => intro h; cases h
      | cons h t ih =>
        intro hm
        rcases List.mem_cons.mp hm with q | q
        · subst q; exact ⟨_, List.mem_cons_self .., h⟩
        · obtain ⟨v, hv, r⟩ := ih q
          exact ⟨v, List.mem_cons_of_mem _ hv, r⟩
    obtain ⟨v, hv, as, r⟩ := this e hn
    exact ⟨v, hv, first_none r⟩
  refine ⟨fun v hv => ?_, ?_⟩
  · obtain ⟨d, hd, as, r⟩ := e.left v hv
    exact ⟨_, W.dataKind_some hal hd r⟩
  · have lt : ∀ kd, kd = general' ∨ kd = oneType' → H.LtAt prog w A s (W.dataKind s.heap ds) kd := fun kd hk E x y a b Q ha hb hq => by
      obtain ⟨d, as, hd, ra, rfl⟩ := W.dataKind_inv ha
      obtain ⟨d', as', hd', rb, rfl⟩ := W.dataKind_inv hb
      have hdd := hal d hd d' hd'
      rcases hk with rfl | rfl
      · rw [kl_general]
        refine W.oneLt_alike (fun z => nomatch z) ra rb hdd (fun z => ?_) (room hd) hq
        obtain ⟨xs, rfl⟩ := ht d hd
        cases z
      · rw [keyLt'_oneType]
        have hr := room (d' := d') hd
        obtain ⟨xs, rfl⟩ := ht d hd
        obtain ⟨ys, rfl⟩ := ht d' hd'
        exact one_tup ra rb (by simpa [W.alike] using hdd) hr hq
    have ask : ∀ (E : Value → Shared → Prop) {Q : SortKind → Shared → Prop}, Q (if (((vs.map (firstAt s.heap)).toArray[0]?).bind id).isSome then general' else oneType') s → 2 ≤ vs.length → wpAny (model prog w) A (keyKind' vs.toArray) Q E s := fun E Q hq h2 => by
      rw [keyKind'_eq, List.mapM_toArray, map_eq_pure_bind]
      refine wpAny_bind (wpAny_bind (mapM_fun (g := firstAt s.heap) _ (fun v hv Q' hq' => ?_) (wpAny_pure ?_)))
      · obtain ⟨xs, as, r⟩ := rd v hv
        exact first_run r _ hq'
      · obtain ⟨v, hv, ev⟩ := em
        rw [if_neg (by
          intro z
          simp only [List.all_toArray, List.all_map, List.all_eq_true] at z
          have := z v hv
          simp [ev] at this)]
        by_cases c : (((vs.map (firstAt s.heap)).toArray[0]?).bind id).isSome = true
        · rw [if_pos c] at hq ⊢
          exact wpAny_pure hq
        · rw [if_neg c] at hq ⊢
          rw [oneTypeOnly'_eq, List.mapM_toArray, map_eq_pure_bind]
          refine wpAny_bind (wpAny_bind (wpAny_bind (mapM_fun (g := fun _ => Value.type "tuple") _ (fun v hv Q' hq' => ?_) (wpAny_pure ?_))))
          · obtain ⟨xs, as, r⟩ := rd v hv
            exact type_run r _ hq'
          · obtain ⟨x, l, rfl⟩ : ∃ x l, vs = x :: l := by
              cases vs with
              | nil => simp at h2
              | cons x l => exact ⟨x, l, rfl⟩
            have h0 : (List.map (fun _ => Value.type "tuple") (x :: l)).toArray[0]? = some (Value.type "tuple") := by simp
            rw [h0]
            have hall : ((List.map (fun _ => Value.type "tuple") (x :: l)).toArray.all fun y => y == Value.type "tuple") = true := by
              simp only [List.all_toArray, List.all_map, List.all_eq_true]
              intro _ _; rfl
            simp only [hall, if_true]
            exact wpAny_pure (wpAny_pure hq)
    refine ⟨_, lt _ ?_, fun h2 E Q hq => ask E hq h2⟩
    split
    · exact .inl rfl
    · exact .inr rfl
def Sortable2 (ds : List PyData) : Prop := W.Sortable ds ∨ ((∀ d ∈ ds, ∃ xs, d = .tuple xs) ∧ PyData.tuple [] ∈ ds)
theorem sorts_any {vs : List Value} {ds : List PyData} (e : W.EachIs (fun v d => ∃ as, Reads s.heap v d as) vs ds) (hal : W.AllAlike ds) (hk : Sortable2 ds) (hu : ∀ d, d ∈ ds → A.units + d.depth < cLine) : W.SortsAt prog w A s (W.dataKind s.heap ds) vs := by
  rcases hk with hk | ⟨h1, h2⟩
  · exact W.SortsAt.data e hal hk hu
  · exact sorts_tups e hal h1 h2 hu
end
end SW

namespace SW
open PySem PySem.Spec PyProof.Rows L2

/-! ### a tuple's items, gathered, sorted -/
section
variable {prog : Program} {w : World} {A : Around} {E : Value → Shared → Prop} {s : Shared}
theorem gather_tup {l : Addr} {vs : List Value} {Q : List Value → Shared → Prop} (hl : s.heap.IsTuple l vs.toArray) (hsz : vs.length ≤ sizeLine)
    (h : Q vs { s with heap := (s.heap.push (seqObj "list" #[] 0)).update s.heap.objs.size (Obj.mapSeq (· ++ vs.toArray)) }) : wpAny (model prog w) A (collect (.ref l)) Q E s := by
  obtain ⟨o, ho, hc, n, hd⟩ := id hl
  have tt : (Value.type "tuple" == Value.type "tuple") = true := rfl
  have oo : (s.heap.push (seqObj "list" #[] 0)).get? l = some o := Heap.get?_push_of_some _ ho
  have new : (s.heap.push (seqObj "list" #[] 0)).get? s.heap.objs.size = some (seqObj "list" #[] 0) := Heap.get?_push_size _ rfl
  unfold collect; refine wpAny_bind (wpAny_runValue (codeAny_builtin entry_proto_collect' ?_))
  show wpAny _ _ (do again (.builtin "list.__iadd__" ⟨[← newList [], .ref l], []⟩)) _ _ s; refine wpAny_bind (wpAny_newList (wpAny_pure ⟨Code.quiet_builtin _ (by decide +kernel), codeAny_builtin entry_list_iadd' ?_⟩))
  show wpAny _ _ (Builtin.List.listExtendWith (.ref s.heap.objs.size) (.ref l) (.ref s.heap.objs.size)) _ _ { s with heap := s.heap.push (seqObj "list" #[] 0) }; unfold Builtin.List.listExtendWith
  refine wpAny_bind (wpAny_typeOf (T := "tuple") ⟨o, oo, hc⟩ ?_); rw [if_pos (by rw [tt]; simp)]
  refine wpAny_bind (listItems_at oo hd (wpAny_bind (listItems_at (xs := #[]) (n := 0) new rfl ?_))); rw [if_neg (by simp)]
  refine wpAny_bind (listUpdate_at (xs := #[]) (n := 0) new rfl (wpAny_pure ?_) (Nat.zero_le _) (by show (#[] ++ vs.toArray).size ≤ sizeLine + 1; simp only [Array.size_append, List.size_toArray, List.length_nil]; omega))
  refine wpAny_bind (wpAny_load (get?_update_seq new _) ?_)
  show wpAny _ _ (pure ((#[] : Array Value) ++ vs.toArray).toList) Q E _; rw [show ((#[] : Array Value) ++ vs.toArray).toList = vs by simp]; exact wpAny_pure h
theorem sorted_tup {β : Type} {vs : List Value} {bs : List β} {enc : β → PyData} {R : Value → β → Prop} {l : Addr} {Q : Value → Shared → Prop} (hl : s.heap.IsTuple l vs.toArray) (e : W.EachIs R vs bs) (er : W.EachIs (fun v b => ∃ as, Reads s.heap v (enc b) as) vs bs) (hal : W.AllAlike (bs.map enc)) (hk : Sortable2 (bs.map enc)) (hL : bs.length ≤ sizeLine)
    (hu : ∀ b, b ∈ bs → A.units + 2 + (enc b).depth < cLine) (h : ∀ out, out.length = bs.length → W.EachIs R out (bs.mergeSort (W.dataLe false enc)) → Q (.ref (s.heap.objs.size + 1)) { s with heap := sortedAll s.heap vs (List.toArray out) }) :
    wpAny (model prog w) A (call (.builtin "sorted") [.ref l]) Q E s := by
  have er' : W.EachIs (fun v b => ∃ as, Reads (W.sortingHeap (W.copyHeap s.heap vs) (s.heap.objs.size + 1) vs) v (enc b) as) vs bs := er.mono fun _ _ ⟨as, r⟩ => ⟨as, PyProof.Rows.Reads.keeps (fun _ _ => W.sorting_copy_old) r⟩
  have hv : vs.length ≤ sizeLine := by rw [e.length]; exact hL
  have S : W.SortsAt prog w A.in1.in1 { s with heap := W.sortingHeap (W.copyHeap s.heap vs) (s.heap.objs.size + 1) vs } _ vs := sorts_any (W.each_map (R := fun v d => ∃ as, Reads (W.sortingHeap (W.copyHeap s.heap vs) (s.heap.objs.size + 1) vs) v d as) enc er') hal hk (W.bound_map hu)
  have fin := h _ (by rw [W.sortVals_length false rfl]; exact e.length) (W.sortVals_data false e er' hal)
  refine PyProof.Rows.call_function_entry_kw kind_sorted plain_sorted entry_sorted (args_sorted1 _) ?_
  unfold Builtin.«sorted»; refine wpAny_bind (m := checkCount "sorted" 1 1 _) (wpAny_pure (wpAny_bind (gather_tup hl hv (wpAny_bind (wpAny_newList ?_ hv)))))
  have sz : ((s.heap.push (seqObj "list" #[] 0)).update s.heap.objs.size (Obj.mapSeq (· ++ vs.toArray))).objs.size = s.heap.objs.size + 1 := by rw [Heap.size_update, size_push']
  show wpAny _ _ _ _ _ { s with heap := W.copyHeap s.heap vs }; rw [sz]
  refine wpAny_bind (wpAny_holding (wpAny_call_entry_kw slot_list_sort ⟨_, W.copyHeap_at s.heap vs, rfl⟩ entry_list_sort ?_ (args_list_sort _)))
  refine wpAny_mono (W.list_sort_vals (s := { s with heap := W.copyHeap s.heap vs }) (P := fun f s' => f = .done (.ret .none) ∧ Q (.ref (s.heap.objs.size + 1)) s') (W.copyHeap_at s.heap vs) S hv ⟨rfl, fin⟩) (fun f s' hf => ?_) fun _ _ e => e
  obtain ⟨rfl, hq⟩ := hf; exact ⟨_, rfl, wpAny_pure ⟨_, rfl, hq⟩⟩
theorem sorted_lst {β : Type} {vs : List Value} {bs : List β} {enc : β → PyData} {R : Value → β → Prop} {l : Addr} {Q : Value → Shared → Prop} (hl : s.heap.IsList l vs.toArray) (e : W.EachIs R vs bs) (er : W.EachIs (fun v b => ∃ as, Reads s.heap v (enc b) as) vs bs) (hal : W.AllAlike (bs.map enc)) (hk : Sortable2 (bs.map enc)) (hL : bs.length ≤ sizeLine)
    (hu : ∀ b, b ∈ bs → A.units + 2 + (enc b).depth < cLine) (h : ∀ out, out.length = bs.length → W.EachIs R out (bs.mergeSort (W.dataLe false enc)) → Q (.ref (s.heap.objs.size + 1)) { s with heap := sortedAll s.heap vs (List.toArray out) }) : wpAny (model prog w) A (call (.builtin "sorted") [.ref l]) Q E s := by
  have er' : W.EachIs (fun v b => ∃ as, Reads (W.sortingHeap (W.copyHeap s.heap vs) (s.heap.objs.size + 1) vs) v (enc b) as) vs bs := er.mono fun _ _ ⟨as, r⟩ => ⟨as, PyProof.Rows.Reads.keeps (fun _ _ => W.sorting_copy_old) r⟩
  refine W.sorted_vals hl (sorts_any (s := { s with heap := W.sortingHeap (W.copyHeap s.heap vs) (s.heap.objs.size + 1) vs }) (W.each_map (R := fun v d => ∃ as, Reads (W.sortingHeap (W.copyHeap s.heap vs) (s.heap.objs.size + 1) vs) v d as) enc er') hal hk (W.bound_map hu)) (by rw [e.length]; exact hL) ?_
  exact h _ (by rw [W.sortVals_length false rfl]; exact e.length) (W.sortVals_data false e er' hal)
end

/-! ### sorted(list), sorted(tuple) -/
def alikes (xs : List Val) : Bool := xs.all fun a => xs.all fun b => valike a b
def isPlain : Val → Bool
  | .non => false
  | .tup _ => false
  | _ => true
def vle (a b : Val) : Bool := !vlt b a
def srt (xs : List Val) : Option (List Val) := if dats xs 60 && alikes xs && (xs.all Val.isTup || xs.all isPlain) then some (xs.mergeSort vle) else none
def gSortedN (h : PH) : List Val → Option (List Val)
  | [x] => (match view h x with
    | .lst xs => srt xs
    | .tup xs => srt xs
    | _ => none)
  | _ => none
theorem each_get {α β : Type} {R : α → β → Prop} : ∀ {as : List α} {bs : List β}, as.length = bs.length → (∀ (i : Nat) a b, as[i]? = some a → bs[i]? = some b → R a b) → W.EachIs R as bs
  | [], [], _, _ => .nil
  | a :: as, b :: bs, hl, h => .cons (h 0 a b rfl rfl) (each_get (by simpa using hl) fun i a b e1 e2 => h (i + 1) a b (by simpa using e1) (by simpa using e2))
section
variable {T : Tab} {X : Cx}
theorem reps_unzip {H : Hp} {U : Addr → Prop} {m : List (Option Addr)} : ∀ {bs : List (Val × V)}, (∀ b ∈ bs, Rep T H U m b.1 b.2) → Reps T H U m (bs.map (·.1)) (bs.map (·.2))
  | [], _ => .nil
  | b :: bs, h => .cons (h b (List.mem_cons_self ..)) (reps_unzip fun x hx => h x (List.mem_cons_of_mem _ hx))
theorem toD_ne_non {v : Val} {n : Nat} (d : dat v n = true) (h : v ≠ .non) : toD v ≠ .none := fun e => by
  cases v <;> simp [toD, dat] at e h d
theorem each_vals : ∀ {out : List Value} {bs : List (Val × V)}, W.EachIs (fun u (b : Val × V) => RelV b.2 u) out bs → Vals (bs.map (·.2)) out
  | _, _, .nil => .nil
  | _, _, .cons h t => .cons h (each_vals t)
/-- what sorting asks of the items and gives -/
theorem srt_facts (ok : XOk T X) {pins : List (Addr × Obj)} {s : Shared} {σ : L2.St} {H : Hp} {U : Addr → Prop} {m : List (Option Addr)} {h : PH} {ys z : List Val} {zs : List V} {its : List Value} (I : Inv X pins σ H s) (r : Reps T H U m ys zs) (rv : Vals zs its) (hz : ys.length ≤ sizeLine) (e : srt ys = some z)
    {P : Prop} (k : (∀ (bs : List (Val × V)), W.EachIs (fun u (b : Val × V) => RelV b.2 u) its bs → W.EachIs (fun v b => ∃ as, Reads s.heap v (toD b.1) as) its bs → W.AllAlike (bs.map fun b => toD b.1) → Sortable2 (bs.map fun b => toD b.1) → bs.length ≤ sizeLine → (∀ b, b ∈ bs → X.A.units + 2 + (toD b.1).depth < cLine) →
      (∀ out, out.length = bs.length → W.EachIs (fun u (b : Val × V) => RelV b.2 u) out (bs.mergeSort (W.dataLe false fun b => toD b.1)) → ∃ xs, Vals xs out ∧ Reps T H U m z xs ∧ z.length ≤ sizeLine) → P)) : P := by
  unfold srt at e
  split at e
  · rename_i hc
    cases e
    simp only [Bool.and_eq_true] at hc
    obtain ⟨⟨hd, ha⟩, hs⟩ := hc
    have l1 := r.length
    have l2 := rv.length
    have hb : ∀ b ∈ ys.zip zs, b.1 ∈ ys ∧ Rep T H U m b.1 b.2 := fun b hb => by
      obtain ⟨i, hi, e⟩ := List.mem_iff_getElem.mp hb
      have hi' : i < ys.length := by simp at hi; omega
      obtain ⟨x, ex, rx⟩ := r.get (List.getElem?_eq_getElem hi')
      have e1 : b.1 = ys[i] := by rw [← e]; simp
      have e2 : b.2 = x := by
        have := (List.getElem?_eq_some_iff.mp ex).2
        rw [← e, ← this]; simp
      rw [e1, e2]
      exact ⟨List.getElem_mem hi', rx⟩
    have al : ∀ a ∈ ys, ∀ b ∈ ys, valike a b = true := fun a h1 b h2 => by
      have := List.all_eq_true.mp ha a h1
      exact List.all_eq_true.mp this b h2
    have dm : ∀ a ∈ ys, dat a 60 = true := fun a h1 => by
      obtain ⟨i, hi, e⟩ := List.mem_iff_getElem.mp h1
      exact dats_get hd (by rw [← e]; exact List.getElem?_eq_getElem hi)
    have nn : ∀ a ∈ ys, a ≠ .non := fun a h1 z => by
      subst z
      rcases (Bool.or_eq_true _ _).mp hs with q | q
      · have := List.all_eq_true.mp q _ h1; simp [Val.isTup] at this
      · have := List.all_eq_true.mp q _ h1; simp [isPlain] at this
    have hu := ok.un
    refine k (ys.zip zs) (each_get (by simp; omega) fun i u b e1 e2 => ?_) (each_get (by simp; omega) fun i u b e1 e2 => ?_) (fun d hd1 d' hd2 => ?_) ?_ (by simp; omega) (fun b h1 => ?_) fun out ho eo => ?_
    · obtain ⟨x, y⟩ := b
      rw [List.getElem?_zip_eq_some] at e2
      obtain ⟨u', eu, ru⟩ := rv.get e2.2
      rw [e1] at eu; cases eu
      exact ru
    · obtain ⟨x, y⟩ := b
      rw [List.getElem?_zip_eq_some] at e2
      obtain ⟨u', eu, ru⟩ := rv.get e2.2
      rw [e1] at eu; cases eu
      obtain ⟨y', ey, ry⟩ := r.get e2.1
      rw [e2.2] at ey; cases ey
      exact Dp.reads I _ _ _ (by rw [ok.k]; exact Rep.dp _ _ _ (dm x (List.mem_of_getElem? e2.1)) ry) ru
    · obtain ⟨b1, m1, rfl⟩ := List.mem_map.mp hd1
      obtain ⟨b2, m2, rfl⟩ := List.mem_map.mp hd2
      rw [valike_ok _ _ _ _ (dm _ (hb _ m1).1) (dm _ (hb _ m2).1)]
      exact al _ (hb _ m1).1 _ (hb _ m2).1
    · rcases (Bool.or_eq_true _ _).mp hs with q | q
      · have tp : ∀ d ∈ (ys.zip zs).map (fun b => toD b.1), ∃ xs, d = .tuple xs := fun d hd1 => by
          obtain ⟨b1, m1, rfl⟩ := List.mem_map.mp hd1
          have := List.all_eq_true.mp q _ (hb _ m1).1
          obtain ⟨v, y⟩ := b1
          cases v with
          | tup ws => exact ⟨toDs ws, by simp only [toD]⟩
          | _ => cases this
        by_cases em : PyData.tuple [] ∈ (ys.zip zs).map (fun b => toD b.1)
        · exact .inr ⟨tp, em⟩
        · refine .inl (.inl fun d hd1 => ?_)
          obtain ⟨xs, rfl⟩ := tp d hd1
          cases xs with
          | nil => exact absurd hd1 em
          | cons x r => exact ⟨x, r, rfl⟩
      · refine .inl (.inr fun d hd1 => ?_)
        obtain ⟨b1, m1, rfl⟩ := List.mem_map.mp hd1
        have q1 := List.all_eq_true.mp q _ (hb _ m1).1
        have q2 := dm _ (hb _ m1).1
        refine ⟨toD_ne_non q2 (nn _ (hb _ m1).1), fun xs z => ?_⟩
        obtain ⟨v, y⟩ := b1
        cases v <;> simp [toD, isPlain, dat] at z q1 q2
    · have := (dat_plain _ _ (dm _ (hb _ h1).1)).2
      omega
    · have srtd : ((ys.zip zs).mergeSort (W.dataLe false fun b => toD b.1)).map (·.1) = ys.mergeSort vle := by
        rw [List.map_mergeSort (s := vle) (f := fun b : Val × V => b.1) fun a h1 b h2 => ?_]
        · rw [List.map_fst_zip (by omega)]
        · have ha1 := (hb _ h1).1
          have hb1 := (hb _ h2).1
          show (!W.dataLt (toD b.1) (toD a.1)) = !vlt b.1 a.1
          rw [vlt_ok _ _ _ _ (dm _ hb1) (dm _ ha1) (al _ hb1 _ ha1) (nn _ hb1)]
      have pm : ∀ b ∈ (ys.zip zs).mergeSort (W.dataLe false fun b => toD b.1), Rep T H U m b.1 b.2 := fun b h1 => (hb b ((List.mergeSort_perm _ _).mem_iff.mp h1)).2
      refine ⟨_, each_vals eo, ?_, by rw [List.length_mergeSort]; exact hz⟩
      rw [← srtd]
      exact reps_unzip pm
  · cases e
theorem sorted_S (ok : XOk T X) : CallN T X (.builtin "sorted") gSortedN := by
  intro pins s σ H U m h x xv v z I hr r rx e
  unfold gSortedN at e
  have hu := ok.un
  split at e
  · rename_i x0
    obtain ⟨y, rfl, r1⟩ := one_reps r
    obtain ⟨u, eu, ry⟩ := vals1 rx
    subst eu
    split at e
    · rename_i ys ey
      obtain ⟨a, zs, rfl, s1, q, hz⟩ := view_lst hr r1 ey
      cases (show u = Value.ref a from ry)
      obtain ⟨its, rv, pl, hz2⟩ := I.list (.of s1)
      refine srt_facts (h := h) ok I q rv hz e fun bs e1 e2 e3 e4 e5 e6 e7 => ?_
      refine sorted_lst (R := fun u (b : Val × V) => RelV b.2 u) (enc := fun b => toD b.1) pl.isList e1 e2 e3 e4 e5 e6 fun out ho eo => ?_
      obtain ⟨xs, v1, r2, hz3⟩ := e7 out ho eo
      obtain ⟨ep, he⟩ := sortedAll_at s.heap its (List.toArray out)
      refine ⟨.ref (s.heap.objs.size + 1), upd H (s.heap.objs.size + 1) (.lst xs), I.laid (t' := s.toks) (fun b o hb => sortedAll_old hb) (Nat.le_succ _) ⟨by rw [← r2.length]; exact hz3, out, ep, v1, he⟩, rfl, H, _, xs, rfl, rfl, Ext.rfl', I.hok.fresh (Nat.le_succ _), r2, hz3⟩
    · rename_i ys ey
      obtain ⟨a, zs, rfl, s1, q, hz⟩ := view_tup r1 ey
      cases (show u = Value.ref a from ry)
      obtain ⟨its, rv, pl, hz2⟩ := I.tuple (by rw [ok.k]; exact s1.t)
      refine srt_facts (h := h) ok I q rv hz e fun bs e1 e2 e3 e4 e5 e6 e7 => ?_
      refine sorted_tup (R := fun u (b : Val × V) => RelV b.2 u) (enc := fun b => toD b.1) (show s.heap.IsTuple a its.toArray from pl) e1 e2 e3 e4 e5 e6 fun out ho eo => ?_
      obtain ⟨xs, v1, r2, hz3⟩ := e7 out ho eo
      obtain ⟨ep, he⟩ := sortedAll_at s.heap its (List.toArray out)
      refine ⟨.ref (s.heap.objs.size + 1), upd H (s.heap.objs.size + 1) (.lst xs), I.laid (t' := s.toks) (fun b o hb => sortedAll_old hb) (Nat.le_succ _) ⟨by rw [← r2.length]; exact hz3, out, ep, v1, he⟩, rfl, H, _, xs, rfl, rfl, Ext.rfl', I.hok.fresh (Nat.le_succ _), r2, hz3⟩
    · cases e
  · cases e
end
end SW

namespace SW
open PySem PySem.Spec PyProof.Rows L2

/-! ### list(range(..)), tuple(range(..)) -/
def rgVal (i j : Int) : Option (List Val) := if sml i && sml j && decide (j - i ≤ 1000000) then some ((List.range (j - i).toNat).map fun k => .int (i + (k : Nat))) else none
def eRg1 (me : Ex) : Ev → SM (List Val) := fun r h => (me r h).bind fun v h1 => lift (match v with | .int j => rgVal 0 j | _ => none) h1
def eRg2 (me me2 : Ex) : Ev → SM (List Val) := fun r h => (me r h).bind fun v h1 => (me2 r h1).bind fun w h2 => lift (match v, w with | .int i, .int j => rgVal i j | _, _ => none) h2
def eTupN (mn : Ev → SM (List Val)) : Ex := fun r h => (mn r h).bind fun vs h1 => .ok (.tup vs) h1
section
variable {T : Tab} {X : Cx} {a b : Expr} {ma mb : Ex} {p p2 pos pos2 : Pos}
theorem rgVal_ok {i j : Int} {vs : List Val} (e : rgVal i j = some vs) : RgOk i j ∧ vs.length ≤ sizeLine ∧ ∀ H U m, Reps T H U m vs (rgV i j) := by
  unfold rgVal at e
  split at e
  · rename_i hc
    cases e
    simp only [Bool.and_eq_true, decide_eq_true_eq] at hc
    refine ⟨⟨hc.1.1.1, hc.1.1.2, hc.1.2.1, hc.1.2.2, by omega⟩, by rw [List.length_map, List.length_range]; exact big_line (by unfold big; omega), fun H U m => ?_⟩
    unfold rgV
    generalize (j - i).toNat = n
    have : ∀ l : List Nat, Reps T H U m (l.map fun k => Val.int (i + (k : Nat))) (l.map fun k => V.int (i + (k : Nat))) := fun l => by
      induction l with
      | nil => exact .nil
      | cons x l ih => exact .cons (.int _) ih
    first | exact this _ | simpa using this (List.range n)
  · cases e
theorem rl1 {W : WC} {σ : L2.St} {H : Hp} {Q : VK} (q : tN T W (eRg1 ma) σ H Q) : tLstRg (tRg1 (tE T W ma)) σ H Q := by
  obtain ⟨U, m, r, h, hr, er, o⟩ := q
  refine ⟨U, m, r, h, hr, er, ?_⟩
  unfold eRg1 at o
  cases e : ma r h with
  | stuck => rw [e] at o; exact o
  | exc _ _ => rw [e] at o; exact o
  | ok v h1 =>
    rw [e] at o
    intro H1 U1 m1 g hr1 x rx
    simp only [Res.bind] at o
    split at o
    · rename_i j
      cases rx
      cases e2 : rgVal 0 j with
      | none => rw [e2] at o; exact (show False from o).elim
      | some vs =>
        rw [e2] at o
        obtain ⟨k1, k2, k3⟩ := rgVal_ok e2
        exact ⟨j, rfl, k1, fun p hp => o _ U1 m1 p _ (NL.of hr hr1 g hp (k3 _ _ _) k2)⟩
    · exact (show False from o).elim
theorem rt1 {W : WC} {σ : L2.St} {H : Hp} {Q : VK} (q : tE T W (eTupN (eRg1 ma)) σ H Q) : tTupRgB (tRg1 (tE T W ma)) σ H Q := by
  obtain ⟨U, m, r, h, hr, er, o⟩ := q
  refine ⟨U, m, r, h, hr, er, ?_⟩
  unfold eTupN eRg1 at o
  cases e : ma r h with
  | stuck => rw [e] at o; exact o
  | exc _ _ => rw [e] at o; exact o
  | ok v h1 =>
    rw [e] at o
    intro H1 U1 m1 g hr1 x rx
    simp only [Res.bind] at o
    split at o
    · rename_i v2 h2 e3
      split at e3
      · rename_i j
        cases rx
        cases e2 : rgVal 0 j with
        | none => rw [e2] at e3; cases e3
        | some vs =>
          rw [e2] at e3; cases e3
          obtain ⟨k1, k2, k3⟩ := rgVal_ok e2
          exact ⟨j, rfl, k1, fun p ob hp b => o _ U1 m1 (g.trans (Gr.of_ext (ext_upd hp))) (hr1.ext (ext_upd hp)) _ (rep_newtup hr1 hp b (k3 _ _ _) k2)⟩
      · cases e3
    · rename_i e3; split at e3 <;> (try cases e3); rename_i j; cases e2 : rgVal 0 j <;> (rw [e2] at e3; cases e3)
    · exact o.elim
theorem cn_list1 (ha : CE T X a ma) (hg : Gl X "list") (hm : X.mg "list" = none) (hg2 : Gl X "range") (hm2 : X.mg "range" = none) (na : starEach [a] X.env = (false, eval a X.env) :: starEach [] X.env := by rfl)
    (nb : starEach [.Call (.Name "range" p2) [a] [] pos2] X.env = (false, eval (.Call (.Name "range" p2) [a] [] pos2) X.env) :: starEach [] X.env := by rfl) : CN T X (.Call (.Name "list" p) [.Call (.Name "range" p2) [a] [] pos2] [] pos) (eRg1 ma) := fun ok W tk =>
  pe_imp (pe_listRg ok.calm hg hm (prg_1 hg2 hm2 (ha ok W tk) na) nb) fun σ H Q q => rl1 q
theorem ce_tuple1 (ha : CE T X a ma) (hg : Gl X "tuple") (hm : X.mg "tuple" = none) (hg2 : Gl X "range") (hm2 : X.mg "range" = none) (na : starEach [a] X.env = (false, eval a X.env) :: starEach [] X.env := by rfl)
    (nb : starEach [.Call (.Name "range" p2) [a] [] pos2] X.env = (false, eval (.Call (.Name "range" p2) [a] [] pos2) X.env) :: starEach [] X.env := by rfl) : CE T X (.Call (.Name "tuple" p) [.Call (.Name "range" p2) [a] [] pos2] [] pos) (eTupN (eRg1 ma)) := fun ok W tk =>
  pe_imp (pe_tupRgB ok.calm hg hm (prg_1 hg2 hm2 (ha ok W tk) na) nb) fun σ H Q q => rt1 q
end

/-! ### xs[::-1] of a list -/
def eUnN (g : PH → Val → Option (List Val)) (a : Ex) : Ev → SM (List Val) := fun r h => (a r h).bind fun x h1 => lift (g h1 x) h1
def gRevN (h : PH) (x : Val) : Option (List Val) := match view h x with
  | .lst xs => some xs.reverse
  | _ => none
section
variable {T : Tab} {X : Cx} {a : Expr} {ma : Ex} {p1 p2 p3 pos : Pos} {k : Nat}
theorem cn_revL (ha : CE T X a ma) : CN T X (.Subscript a (.Slice none none (some (.UnaryOp .USub (.Constant (.int 1) k p1) p2)) p3) pos) (eUnN gRevN ma) := fun ok W tk =>
  pe_imp (pe_revL (ha ok W tk)) fun σ H Q ⟨U, m, r, h, hr, er, o⟩ => by
    refine ⟨U, m, r, h, hr, er, ?_⟩
    unfold eUnN at o
    cases e : ma r h with
    | stuck => rw [e] at o; exact o
    | exc _ _ => rw [e] at o; exact o
    | ok v h1 =>
      rw [e] at o
      intro H1 U1 m1 g hr1 x rx
      simp only [Res.bind] at o
      cases e2 : gRevN h1 v with
      | none => rw [e2] at o; exact (show False from o).elim
      | some ys =>
        rw [e2] at o
        unfold gRevN at e2
        split at e2
        · rename_i xs ex
          cases e2
          obtain ⟨b, zs, rfl, s1, q, hz⟩ := view_lst hr1 rx ex
          exact ⟨b, zs, rfl, by rw [ok.k]; exact .of s1, fun p hp => o _ U1 m1 p _ (NL.of hr hr1 g hp q.reverse (by rw [List.length_reverse]; exact hz))⟩
        · cases e2
end

/-! ### a slice of a tuple or of a list -/
def isTupR (r : Res Val) : Bool := match r with
  | .ok v _ => v.isTup
  | _ => true
def eCut (a : Ex) (lo hi : Option Ex) : Ex := fun r h => if isTupR (a r h) then eSlc gCut a lo hi r h else eFrz (eSlc gCutN a lo hi) r h
section
variable {T : Tab} {X : Cx} {a : Expr} {ma : Ex} {lo hi : Option Expr} {ml mh : Option Ex} {pos p2 : Pos}
theorem ce_cut (ha : CE T X a ma) (hl : CO T X lo ml) (hh : CO T X hi mh) : CE T X (.Subscript a (.Slice lo hi none p2) pos) (eCut ma ml mh) := fun ok W tk => ⟨fun pins s σ H Q I ⟨U, m, r, h, hr, er, o⟩ => by
  unfold eCut at o
  split at o
  · exact (ce_slc ha hl hh ok W tk).run pins s σ H Q I ⟨U, m, r, h, hr, er, o⟩
  · exact (ce_frz (cn_slc ha hl hh) ok W tk).run pins s σ H Q I ⟨U, m, r, h, hr, er, o⟩⟩
end
end SW

namespace PySem
open Sem (wp)
/-- enumerate(v) of one argument, v told by the object that its iterator is -/
theorem enumNew1 {v : Value} {o : Obj} {H : Heap → Prop} (B : Begins v o H) : Meets (Builtin.«enumerate.__new__» ⟨[.type "enumerate", v], []⟩) (fun _ R s => H s.heap ∧
    R (.ok (.ret (.ref (s.heap.push o).objs.size))) { s with heap := (s.heap.push o).push { cls := .type "enumerate", data := .fields #[.none, .bool false, .ref s.heap.objs.size, rawInt 0, .none, .none] } }) := .of_wp fun prog w A R s h => by
  obtain ⟨hp, g, d, tk, os⟩ := s
  obtain ⟨h1, h⟩ := h
  have hsub := sub_enumerate
  have q1 : ∀ {A' : Around} {E : Value → Shared → Prop} {Q : Value → Shared → Prop}, Q (.ref hp.objs.size) ⟨hp.push o, g, d, tk, os⟩ → wpAny (model prog w) A' (pyIter v) Q E ⟨hp, g, d, tk, os⟩ := fun q => B.iter prog w _ _ ⟨hp, g, d, tk, os⟩ _ h1 q
  wp_walk using q1
  refine wpAny_stack_any fun st => wpAny_pure ?_
  split
  · rename_i c _ _ _ _ _
    cases (c == Value.type "enumerate") <;> (wp_walk using q1; exact ⟨_, rfl, h⟩)
  · wp_walk using q1; exact ⟨_, rfl, h⟩
theorem enumCall1 {prog : Program} {w : World} {A : Around} {E : Value → Shared → Prop} {s : Shared} {v : Value} {o : Obj} {H : Heap → Prop} {Q : Value → Shared → Prop} (B : Begins v o H) (h1 : H s.heap)
    (h : ∀ h', IsEnum h' (s.heap.objs.size + 1) s.heap.objs.size 0 .none → h'.get? s.heap.objs.size = some o → (∀ b o, s.heap.get? b = some o → h'.get? b = some o) → Q (.ref (s.heap.objs.size + 1)) { s with heap := h' }) : wpAny (model prog w) A (call (.type "enumerate") [v]) Q E s := by
  refine callType_new F.called_enumerate (by decide) (F.typeCall_enumerate_1 _) (F.newCall_enumerate_1 _) (fun obj => F.args_object_init_2 obj _) F.entry_enumerate_new (enumNew1 B) ⟨h1, ?_⟩
  have hz : (s.heap.push o).objs.size = s.heap.objs.size + 1 := Heap.size_push ..
  have he := Heap.get?_push_size (s.heap.push o) (o := { cls := .type "enumerate", data := .fields #[.none, .bool false, .ref s.heap.objs.size, rawInt 0, .none, .none] }) rfl
  rw [hz] at he
  show _ ∧ _; rw [hz]
  exact ⟨⟨_, he, rfl⟩, h _ he (Heap.get?_push_of_some _ (Heap.get?_push_size _ B.free)) fun b o x => Heap.get?_push_of_some _ (Heap.get?_push_of_some _ x)⟩
end PySem
namespace SW
open PySem PySem.Spec PyProof.Rows L2
/-- enumerate(a tuple), each item in a new pair -/
def IteT (K : PySem.W.Frag) (a : Addr) (n : Nat) : It :=
  ⟨fun i H => i < n ∧ ∃ xs : List V, SqT K H a xs ∧ xs.length = n, fun i H v H' => ∃ T x, v = .ref T ∧ H T = none ∧ H' = upd H T (.tup [.int (i : Nat), x]) ∧ ∀ xs, SqT K H a xs → xs[i]? = some x, fun i H => n = i ∧ ∃ xs : List V, SqT K H a xs ∧ xs.length = n⟩
theorem turn_enumT {P : Program} {w : World} {K : PySem.W.Frag} {elts : List Expr} {kk : Nat} {tpos : Pos} (a e it : Addr) (n : Nat) :
    Turn P w K (.Tuple elts kk tpos) (IteT K a n) [e, it] e (fun i h => (∃ old, IsEnum h e it ((i : Nat) : Int) old) ∧ h.IsTupleIter it a i ∧ e ≠ it ∧ a ≠ it ∧ a ≠ e) where
  mem := by simp
  obj := fun i h st b hb => by
    obtain ⟨⟨old, he⟩, ⟨o, ho, hc, hd⟩, _⟩ := st
    rcases (show b = e ∨ b = it by simpa using hb) with z | z
    · rw [z]; exact ⟨_, he, fun v q => nomatch q⟩
    · rw [z]; exact ⟨o, ho, fun v q => by rw [hd] at q; cases q⟩
  keep := fun i h h' st k => let ⟨⟨old, he⟩, hi, hne⟩ := st; ⟨⟨old, k e (by simp) _ he⟩, hi.at fun o q => k it (by simp) o q, hne⟩
  item := by
    intro X hP hw hK hc i pins s σ H E I hf st hg
    subst hP hw hK
    obtain ⟨⟨old, he⟩, hit, hne, hai, hae⟩ := st
    obtain ⟨hi, xs, hq, hx⟩ := hg
    obtain ⟨its, rv, p, hz⟩ := I.tuple hq
    have hl := rv.length
    have hel : e < s.heap.objs.size := Heap.lt_size he
    have hil : it < s.heap.objs.size := by obtain ⟨_, q, _⟩ := hit; exact Heap.lt_size q
    have hlen : i < its.toArray.size := by simp; omega
    obtain ⟨y, hy⟩ : ∃ y, xs[i]? = some y := ⟨xs[i]'(by omega), List.getElem?_eq_getElem _⟩
    obtain ⟨u, hu, ru⟩ := rv.get hy
    have D : Draws X.prog X.w X.A.in1 it [it, a] its.toArray.size (fun i v => its.toArray[i]? = some v) fun i h => h.IsTupleIter it a i ∧ h.IsTuple a its.toArray := Draws.tuple (show X.A.in1.handled = none from I.ok.hd hc) it a hai its.toArray
    refine wpAny_pyNext_enum_itemD D he ⟨hit, p⟩ hlen hne (by simp [hne, Ne.symm hae]) fun x h' tk hx' ho hit' hT hsz hk => ?_
    have ex : x = u := by
      have q : its[i]? = some x := by simpa using hx'
      rw [hu] at q; cases q; rfl
    subst ex
    refine ⟨_, rfl, wpAny_letOwnedTupleGo_enum (s := { s with heap := h', toks := tk + 1 }) ho fun h'' he' sb => ?_⟩
    have hT2 : h''.get? s.heap.objs.size = some { cls := .type "tuple", data := .seq #[.int i tk, x] } := (sb.2 _ (Nat.ne_of_gt hel)).trans hT
    have new : ObjOk X.prog X.w (upd H s.heap.objs.size (.tup [.int (i : Nat), y])) h'' s.heap.objs.size (.tup [.int (i : Nat), y]) := ⟨by show 2 ≤ sizeLine; exact pair_size, [.int i tk, x], .cons ⟨_, rfl⟩ (.cons ru .nil), ⟨_, hT2, rfl, _, rfl⟩⟩
    have I1 : Inv X pins σ (upd H s.heap.objs.size (.tup [.int (i : Nat), y])) { s with heap := h'', toks := tk + 1 } :=
      I.turnedNew (t' := tk + 1) (ch := [e, it]) (fun b ob hb q => (sb.2 b (fun z => hb (by simp [z]))).trans (hk b ob (fun z => hb (by simp [z])) (fun z => hb (by simp [z])) q)) hf (Nat.le_refl _) new
    have e1 : ((i + 1 : Nat) : Int) = (i : Int) + 1 := by omega
    refine ⟨.ref s.heap.objs.size, _, I1, rfl, ⟨_, y, rfl, I.hok.fresh (Nat.le_refl _), rfl, fun ys hys => by rw [I.tuple_inj hys hq]; exact hy⟩, ⟨⟨x, by rw [e1]; exact he'⟩, hit'.1.at fun o q => (sb.2 it (Ne.symm hne)).trans q, hne, hai, hae⟩, fun b hb => ?_⟩
    have hb' : b < s.heap.objs.size := by
      rcases (show b = e ∨ b = it by simpa using hb) with z | z
      · rw [z]; exact hel
      · rw [z]; exact hil
    rw [upd_ne (Nat.ne_of_lt hb')]
    exact (hf b hb).1
  done := by
    intro X hP hw hK hc i pins s σ H E I hf st hg
    subst hP hw hK
    obtain ⟨⟨old, he⟩, hit, hne, hai, hae⟩ := st
    obtain ⟨rfl, xs, hq, hx⟩ := hg
    obtain ⟨its, rv, p, hz⟩ := I.tuple hq
    have hl := rv.length
    have hn : n = its.toArray.size := by simp; omega
    obtain ⟨f0, f1, f2, f3, f4, f5⟩ := hf it (by simp)
    have st2 : s.heap.IsTupleIter it a its.toArray.size ∧ s.heap.IsTuple a its.toArray := ⟨hn ▸ hit, p⟩
    have D : Draws X.prog X.w X.A.in1 it [it, a] its.toArray.size (fun i v => its.toArray[i]? = some v) fun i h => h.IsTupleIter it a i ∧ h.IsTuple a its.toArray := Draws.tuple (show X.A.in1.handled = none from I.ok.hd hc) it a hai its.toArray
    exact wpAny_pyNext_enum_endD D he st2 fun h' eb => ⟨rfl, I.turned (t' := s.toks) (fun b o hb q => eb b o hb q) f0 f1 f3 f4 f5⟩
  self := fun A i s Q E st h => let ⟨⟨_, he⟩, _⟩ := st; wpAny_pyIter_enum he h
def iEnumT (K : PySem.W.Frag) (ta : TE) : TI := fun σ H R => ta σ H fun v H1 => ∃ a xs, v = .ref a ∧ SqT K H1 a xs ∧ R (IteT K a xs.length) H1
theorem pi_enumT {X : Cx} {e : Expr} {ta : TE} {p pos tpos : Pos} {elts : List Expr} {kk : Nat} (hg : Gl X "enumerate") (hm : X.mg "enumerate" = none) (ha : PE X e ta) (hs : starEach [e] X.env = (false, eval e X.env) :: starEach [] X.env := by rfl) :
    PI X (.Tuple elts kk tpos) (.Call (.Name "enumerate" p) [e] [] pos) (iEnumT X.K ta) := by
  refine ⟨fun pins s σ H R I h => ?_⟩
  refine Call_ (ld_blt I hg hm boot_enumerate (PyProof.Rows.callWith_type1 (args_cons (thn (ha.run pins s σ H _ I h) fun u s1 ⟨v, H1, I1, r1, q1⟩ => args_nil ?_) hs) hs rfl))
  obtain ⟨a, xs, rfl, hq, q⟩ := q1
  obtain rfl : u = Value.ref a := r1
  obtain ⟨its, rv, pl, hz⟩ := I1.tuple hq
  obtain ⟨oa, hoa, _⟩ := id pl
  have hal : a < s1.heap.objs.size := Heap.lt_size hoa
  refine enumCall1 (begins_tuple a its.toArray) pl fun h' he hit hk => wpAny_pyIter_enum he ?_
  have I2 : Inv X pins σ H1 { s1 with heap := h' } := I1.kept (t' := s1.toks) hk
  refine ⟨s1.heap.objs.size + 1, [s1.heap.objs.size + 1, s1.heap.objs.size], _, _, H1, rfl, I2, turn_enumT a (s1.heap.objs.size + 1) s1.heap.objs.size xs.length, ⟨⟨.none, he⟩, ⟨_, hit, rfl, rfl⟩, Nat.succ_ne_self _, Nat.ne_of_lt hal, Nat.ne_of_lt (Nat.lt_succ_of_lt hal)⟩, fun b hb => ?_, q⟩
  have hle : s1.heap.objs.size ≤ b := by
    rcases (show b = s1.heap.objs.size + 1 ∨ b = s1.heap.objs.size by simpa using hb) with z | z
    · rw [z]; exact Nat.le_succ _
    · rw [z]; exact Nat.le_refl _
  exact I1.fpOk hle (I1.hok.fresh hle)
def srcEnumA (v : Val) : SM Src := fun h => match seqAt v h with
  | some xs => .ok (liveSrc v xs.length fun i ys => (ys[i]?).map fun y => .ins 1 [.int i, y]) h
  | none => .stuck
section
variable {T : Tab} {H H' : Hp} {U U' : Addr → Prop} {m m' : List (Option Addr)} {h h' : PH} {v : Val} {a : Addr}
theorem walk_enumT (hr : HR T H U m h) (r : Rep T H U m v (.ref a)) (hv : v.isTup = true) {xs : List Val} (hx : seqAt v h = some xs) (hn : xs.length ≤ sizeLine) : WalkS T (IteT T.K a xs.length) (liveSrc v xs.length fun i ys => (ys[i]?).map fun y => .ins 1 [.int i, y]) H U m where
  size := hn
  go := by
    intro H' U' m' h' i u g hr' hi e
    obtain ⟨ys, e1, e2⟩ := some_bind e
    have same : ys = xs := by
      cases v with
      | tup zs => cases hx; cases e1; rfl
      | _ => cases hv
    subst same
    obtain ⟨zs, q1, q2, q3⟩ := later hr r g hr' e1
    rw [if_pos hv] at q3
    dsimp only at e2
    cases e3 : ys[i]? with
    | none => rw [e3] at e2; cases e2
    | some y =>
      rw [e3] at e2; cases e2
      obtain ⟨z, ez, rz⟩ := q1.get e3
      exact ⟨⟨hi, zs, q3, q1.length.symm⟩, fun x H2 ⟨p, z', ex, hp, eH, k⟩ => by
        subst eH ex
        obtain rfl := Option.some.inj ((k zs q3).symm.trans ez)
        exact ⟨ext_upd hp, rep_newpr hr' hp (.cons (.int _) (.cons rz .nil)) pair_size⟩⟩
  stop := by
    intro H' U' m' h' g hr' e
    simp only [liveSrc] at e
    split at e
    · rename_i ys e1
      have same : ys = xs := by
        cases v with
        | tup zs => cases hx; cases e1; rfl
        | _ => cases hv
      subst same
      obtain ⟨zs, q1, q2, q3⟩ := later hr r g hr' e1
      rw [if_pos hv] at q3
      exact ⟨rfl, zs, q3, q1.length.symm⟩
    · cases e
theorem ci_enumA {X : Cx} {e : Expr} {me : Ex} {p pos tpos : Pos} {elts : List Expr} {kk : Nat} (he : CE T X e me) (hg : Gl X "enumerate") (hm : X.mg "enumerate" = none) (hs : starEach [e] X.env = [(false, eval e X.env)] := by rfl) :
    CI T X (.Tuple elts kk tpos) (.Call (.Name "enumerate" p) [e] [] pos) (sSeq1 srcEnumA me) := fun ok W tk => ⟨fun pins s σ H R I ⟨U, m, r, h, hr, er, o⟩ => by
  by_cases ht : isTupR (me r h) = true
  · refine (pi_enumT (tpos := tpos) (elts := elts) (kk := kk) hg hm (he ok W tk) hs).run pins s σ H R I ⟨U, m, r, h, hr, er, ?_⟩
    cases em : me r h with
    | stuck => simp only [sSeq1, em, Res.bind] at o; exact o
    | exc _ _ => simp only [sSeq1, em, Res.bind] at o; exact o
    | ok v h1 =>
      rw [em] at ht
      have ht : v.isTup = true := ht
      intro H1 U1 m1 g hr1 x rx
      simp only [sSeq1, em, Res.bind, srcEnumA] at o
      split at o
      · rename_i xs ex
        obtain ⟨a, ys, rfl, q1, q2, q3⟩ := seq_rep hr1 rx ex
        rw [if_pos ht] at q3
        have w := walk_enumT hr1 rx ht ex q2
        exact ⟨a, ys, rfl, by rw [ok.k]; exact q3, by rw [ok.k, ← q1.length]; exact o H1 U1 m1 g hr1 _ w⟩
      · exact o.elim
  · cases em : me r h with
    | stuck => simp only [sSeq1, em, Res.bind] at o; exact o.elim
    | exc _ _ => rw [em] at ht; exact absurd rfl ht
    | ok v h1 =>
      rw [em] at ht
      have hv : v.isTup = false := by
        cases q : v.isTup with
        | true => exact absurd q ht
        | false => rfl
      refine (ci_enum (tpos := tpos) (elts := elts) (kk := kk) he hg hm hs ok W tk).run pins s σ H R I ⟨U, m, r, h, hr, er, ?_⟩
      simp only [sSeq1, em, Res.bind, srcEnumA] at o
      simp only [sSeq1, em, Res.bind, srcEnum]
      split at o
      · rename_i xs ex
        try rw [ex]
        simp only [hv, Bool.false_eq_true, if_false]
        exact o
      · exact o.elim⟩
end
end SW

namespace SW
open PySem PySem.Spec PyProof.Rows L2

mutual
theorem toD_inj : ∀ (x y : Val) (n m : Nat), dat x n = true → dat y m = true → toD x = toD y → x = y
  | .non, y, n, m, _, d, e => by cases y <;> simp [toD, dat] at e d ⊢
  | .bl a, y, n, m, _, d, e => by cases y <;> simp [toD, dat] at e d ⊢; exact e
  | .int a, y, n, m, _, d, e => by cases y <;> simp [toD, dat] at e d ⊢; exact e
  | .str a, y, n, m, _, d, e => by cases y <;> simp [toD, dat] at e d ⊢; exact e
  | .tup xs, y, n, m, c, d, e => by
    cases n with
    | zero => simp [dat] at c
    | succ n =>
      cases y with
      | tup ys =>
        cases m with
        | zero => simp [dat] at d
        | succ m =>
          simp only [toD, PyData.tuple.injEq] at e
          rw [toDs_inj xs ys n m (by simpa only [dat] using c) (by simpa only [dat] using d) e]
      | _ => simp [toD, dat] at e d
  | .lst xs, y, n, m, c, d, e => by
    cases n with
    | zero => simp [dat] at c
    | succ n =>
      cases y with
      | lst ys =>
        cases m with
        | zero => simp [dat] at d
        | succ m =>
          simp only [toD, PyData.list.injEq] at e
          rw [toDs_inj xs ys n m (by simpa only [dat] using c) (by simpa only [dat] using d) e]
      | _ => simp [toD, dat] at e d
  | .dct _ _, _, _, _, c, _, _ => by simp [dat] at c
  | .ins _ _, _, _, _, c, _, _ => by simp [dat] at c
  | .ref _, _, _, _, c, _, _ => by simp [dat] at c
theorem toDs_inj : ∀ (x y : List Val) (n m : Nat), dats x n = true → dats y m = true → toDs x = toDs y → x = y
  | [], [], _, _, _, _, _ => rfl
  | [], _ :: _, _, _, _, _, e => by simp [toDs] at e
  | _ :: _, [], _, _, _, _, e => by simp [toDs] at e
  | x :: xs, y :: ys, n, m, c, d, e => by
    simp only [dats, Bool.and_eq_true] at c d
    simp only [toDs, List.cons.injEq] at e
    rw [toD_inj x y n m c.1 d.1 e.1, toDs_inj xs ys n m c.2 d.2 e.2]
end
def vmin (x : Val) (xs : List Val) : Val := xs.foldl (fun a y => if vlt y a then y else a) x
def vmax (x : Val) (xs : List Val) : Val := xs.foldl (fun a y => if vlt a y then y else a) x
def ordAll (xs : List Val) : Bool := dats xs 60 && (xs.all fun a => xs.all fun b => valike a b) && xs.all fun a => !nonB a
def gMin1 (h : PH) : List Val → Option Val
  | [v] => (match view h v with
    | .lst (x :: xs) => if ordAll (x :: xs) then some (vmin x xs) else none
    | .tup (x :: xs) => if ordAll (x :: xs) then some (vmin x xs) else none
    | _ => none)
  | _ => none
def gMax1 (h : PH) : List Val → Option Val
  | [v] => (match view h v with
    | .lst (x :: xs) => if ordAll (x :: xs) then some (vmax x xs) else none
    | .tup (x :: xs) => if ordAll (x :: xs) then some (vmax x xs) else none
    | _ => none)
  | _ => none
theorem nonB_ne {a : Val} (h : (!nonB a) = true) : a ≠ .non := fun z => by subst z; cases h
structure OrdA (ys : List Val) : Prop where
  d : ∀ a ∈ ys, dat a 60 = true
  l : ∀ a ∈ ys, ∀ b ∈ ys, valike a b = true
  n : ∀ a ∈ ys, a ≠ .non
theorem ordAll_ok {ys : List Val} (e : ordAll ys = true) : OrdA ys := by
  unfold ordAll at e
  simp only [Bool.and_eq_true, List.all_eq_true] at e
  refine ⟨fun a h => ?_, e.1.2, fun a h => nonB_ne (e.2 a h)⟩
  obtain ⟨i, hi, q⟩ := List.mem_iff_getElem.mp h
  exact dats_get e.1.1 (by rw [← q]; exact List.getElem?_eq_getElem hi)
theorem toDs_map : ∀ xs : List Val, toDs xs = xs.map toD
  | [] => rfl
  | x :: xs => by simp only [toDs, List.map_cons, toDs_map xs]
theorem vmin_mem {x : Val} : ∀ {xs : List Val}, vmin x xs ∈ x :: xs := by
  intro xs
  unfold vmin
  induction xs generalizing x with
  | nil => simp
  | cons y ys ih =>
    simp only [List.foldl_cons]
    split
    · exact List.mem_cons_of_mem _ ih
    · rcases List.mem_cons.mp (ih (x := x)) with q | q
      · rw [q]; exact List.mem_cons_self ..
      · exact List.mem_cons_of_mem _ (List.mem_cons_of_mem _ q)
theorem vmax_mem {x : Val} : ∀ {xs : List Val}, vmax x xs ∈ x :: xs := by
  intro xs
  unfold vmax
  induction xs generalizing x with
  | nil => simp
  | cons y ys ih =>
    simp only [List.foldl_cons]
    split
    · exact List.mem_cons_of_mem _ ih
    · rcases List.mem_cons.mp (ih (x := x)) with q | q
      · rw [q]; exact List.mem_cons_self ..
      · exact List.mem_cons_of_mem _ (List.mem_cons_of_mem _ q)
theorem minD_ok {x : Val} {xs : List Val} (o : OrdA (x :: xs)) : W.minD (toD x) (toDs xs) = toD (vmin x xs) := by
  unfold W.minD vmin
  rw [toDs_map]
  induction xs generalizing x with
  | nil => rfl
  | cons y ys ih =>
    have hx := List.mem_cons_self (a := x) (l := y :: ys)
    have hy : y ∈ x :: y :: ys := List.mem_cons_of_mem _ (List.mem_cons_self ..)
    simp only [List.map_cons, List.foldl_cons]
    rw [vlt_ok _ _ _ _ (o.d y hy) (o.d x hx) (o.l y hy x hx) (o.n y hy)]
    have sub : ∀ z, z = x ∨ z = y → OrdA (z :: ys) := fun z hz => by
      have m : ∀ a ∈ z :: ys, a ∈ x :: y :: ys := fun a ha => by
        rcases List.mem_cons.mp ha with q | q
        · rcases hz with rfl | rfl
          · rw [q]; exact hx
          · rw [q]; exact hy
        · exact List.mem_cons_of_mem _ (List.mem_cons_of_mem _ q)
      exact ⟨fun a ha => o.d a (m a ha), fun a ha b hb => o.l a (m a ha) b (m b hb), fun a ha => o.n a (m a ha)⟩
    split
    · exact ih (sub y (.inr rfl))
    · exact ih (sub x (.inl rfl))
theorem maxD_ok {x : Val} {xs : List Val} (o : OrdA (x :: xs)) : W.maxD (toD x) (toDs xs) = toD (vmax x xs) := by
  unfold W.maxD vmax
  rw [toDs_map]
  induction xs generalizing x with
  | nil => rfl
  | cons y ys ih =>
    have hx := List.mem_cons_self (a := x) (l := y :: ys)
    have hy : y ∈ x :: y :: ys := List.mem_cons_of_mem _ (List.mem_cons_self ..)
    simp only [List.map_cons, List.foldl_cons]
    rw [vlt_ok _ _ _ _ (o.d x hx) (o.d y hy) (o.l x hx y hy) (o.n x hx)]
    have sub : ∀ z, z = x ∨ z = y → OrdA (z :: ys) := fun z hz => by
      have m : ∀ a ∈ z :: ys, a ∈ x :: y :: ys := fun a ha => by
        rcases List.mem_cons.mp ha with q | q
        · rcases hz with rfl | rfl
          · rw [q]; exact hx
          · rw [q]; exact hy
        · exact List.mem_cons_of_mem _ (List.mem_cons_of_mem _ q)
      exact ⟨fun a ha => o.d a (m a ha), fun a ha b hb => o.l a (m a ha) b (m b hb), fun a ha => o.n a (m a ha)⟩
    split
    · exact ih (sub y (.inr rfl))
    · exact ih (sub x (.inl rfl))
section
variable {T : Tab} {X : Cx}
theorem best_facts (ok : XOk T X) {pins : List (Addr × Obj)} {s : Shared} {σ : L2.St} {H : Hp} {U : Addr → Prop} {m : List (Option Addr)} {x : Val} {xs : List Val} {zs : List V} {its : List Value} (I : Inv X pins σ H s) (o : OrdA (x :: xs)) (r : Reps T H U m (x :: xs) zs) (rv : Vals zs its) :
    ∃ as, ReadsAll s.heap its.toArray.toList (toD x :: toDs xs) as ∧ (∀ (i : Nat) (w : Value) (h' : Heap) (v : Val) (bs : List Addr), v ∈ x :: xs → its[i]? = some w → (∀ b ob, s.heap.get? b = some ob → h'.get? b = some ob) → Reads h' w (toD v) bs → ∃ zv, RelV zv w ∧ Rep T H U m v zv) ∧
      W.AlikeAll (toD x :: toDs xs) ∧ PyData.depthAll (toD x :: toDs xs) ≤ 60 := by
  have dd : dats (x :: xs) 60 = true := by
    have : ∀ l : List Val, (∀ a ∈ l, dat a 60 = true) → dats l 60 = true := fun l => by
      induction l with
      | nil => intro _; rfl
      | cons y l ih => intro h; simp only [dats, Bool.and_eq_true]; exact ⟨h y (List.mem_cons_self ..), ih fun a ha => h a (List.mem_cons_of_mem _ ha)⟩
    exact this _ o.d
  have e1 : toD x :: toDs xs = toDs (x :: xs) := by simp only [toDs]
  have mem : ∀ d ∈ toDs (x :: xs), ∃ a ∈ x :: xs, d = toD a := fun d hd => by
    rw [toDs_map] at hd
    obtain ⟨a, ha, rfl⟩ := List.mem_map.mp hd
    exact ⟨a, ha, rfl⟩
  obtain ⟨as, ra⟩ := Dp.readsAll I (toDs (x :: xs)) zs its (by rw [ok.k]; exact Reps.dp _ _ _ dd r) rv
  rw [e1]
  refine ⟨as, by simpa using ra, fun i w h' v bs hv hw hk hr2 => ?_, ⟨fun a ha b hb => ?_, fun a ha => ?_⟩, (dats_plain _ _ dd).2⟩
  · obtain ⟨zv, ez, rz⟩ : ∃ zv, zs[i]? = some zv ∧ RelV zv w := by
      have hi : i < zs.length := by rw [rv.length]; exact (List.getElem?_eq_some_iff.mp hw).1
      obtain ⟨w', ew, rw'⟩ := rv.get (List.getElem?_eq_getElem hi)
      rw [hw] at ew; cases ew
      exact ⟨_, List.getElem?_eq_getElem hi, rw'⟩
    obtain ⟨y, ey, ry⟩ := r.getV ez
    have my := List.mem_of_getElem? ey
    obtain ⟨as', q⟩ := Dp.reads I _ _ _ (by rw [ok.k]; exact Rep.dp _ _ _ (o.d y my) ry) rz
    have q' : Reads h' w (toD y) as' := PyProof.Rows.Reads.keeps hk q
    have eq := toD_inj _ _ _ _ (o.d y my) (o.d v hv) (q'.unique _ _ hr2).1
    rw [← eq]
    exact ⟨zv, rz, ry⟩
  · obtain ⟨a', ha', rfl⟩ := mem a ha
    obtain ⟨b', hb', rfl⟩ := mem b hb
    rw [valike_ok _ _ _ _ (o.d a' ha') (o.d b' hb')]
    exact o.l a' ha' b' hb'
  · obtain ⟨a', ha', rfl⟩ := mem a ha
    exact toD_ne_non (o.d a' ha') (o.n a' ha')
theorem min1_S (ok : XOk T X) : CallS T X (.builtin "min") gMin1 := by
  intro pins s σ H U m h x xv v z I hr r rx e
  have hu := ok.un
  have hh : X.A.handled = none := ok.hd
  unfold gMin1 at e
  split at e
  · obtain ⟨y, rfl, r1⟩ := one_reps r
    obtain ⟨u, eu, ry⟩ := vals1 rx
    subst eu
    split at e
    · rename_i y0 ys ey
      split at e
      · rename_i ho
        cases e
        have o := ordAll_ok ho
        obtain ⟨a, zs, rfl, s1, q, hz⟩ := view_lst hr r1 ey
        cases (show u = Value.ref a from ry)
        obtain ⟨its, rv, pl, hz2⟩ := I.list (.of s1)
        obtain ⟨as, ra, hp, k⟩ := best_facts ok I o q rv
        refine W.min_list_data hh pl.isList ra k.1 (by omega) fun i w h' tk bs hw hr2 hk => ?_
        rw [minD_ok o] at hr2
        obtain ⟨zv, r2, r3⟩ := hp i w h' _ bs vmin_mem (by simpa using hw) hk hr2
        exact ⟨zv, H, I.kept (t' := tk) hk, r2, Ext.rfl', r3⟩
      · cases e
    · rename_i y0 ys ey
      split at e
      · rename_i ho
        cases e
        have o := ordAll_ok ho
        obtain ⟨a, zs, rfl, s1, q, hz⟩ := view_tup r1 ey
        cases (show u = Value.ref a from ry)
        obtain ⟨its, rv, pl, hz2⟩ := I.tuple (by rw [ok.k]; exact s1.t)
        obtain ⟨as, ra, hp, k⟩ := best_facts ok I o q rv
        refine W.min_tuple_data hh (show s.heap.IsTuple a its.toArray from pl) ra k.1 (by omega) fun i w h' tk bs hw hr2 hk => ?_
        rw [minD_ok o] at hr2
        obtain ⟨zv, r2, r3⟩ := hp i w h' _ bs vmin_mem (by simpa using hw) hk hr2
        exact ⟨zv, H, I.kept (t' := tk) hk, r2, Ext.rfl', r3⟩
      · cases e
    · cases e
  · cases e
theorem max1_S (ok : XOk T X) : CallS T X (.builtin "max") gMax1 := by
  intro pins s σ H U m h x xv v z I hr r rx e
  have hu := ok.un
  have hh : X.A.handled = none := ok.hd
  unfold gMax1 at e
  split at e
  · obtain ⟨y, rfl, r1⟩ := one_reps r
    obtain ⟨u, eu, ry⟩ := vals1 rx
    subst eu
    split at e
    · rename_i y0 ys ey
      split at e
      · rename_i ho
        cases e
        have o := ordAll_ok ho
        obtain ⟨a, zs, rfl, s1, q, hz⟩ := view_lst hr r1 ey
        cases (show u = Value.ref a from ry)
        obtain ⟨its, rv, pl, hz2⟩ := I.list (.of s1)
        obtain ⟨as, ra, hp, k⟩ := best_facts ok I o q rv
        refine W.max_list_data hh pl.isList ra k.1 (by omega) fun i w h' tk bs hw hr2 hk => ?_
        rw [maxD_ok o] at hr2
        obtain ⟨zv, r2, r3⟩ := hp i w h' _ bs vmax_mem (by simpa using hw) hk hr2
        exact ⟨zv, H, I.kept (t' := tk) hk, r2, Ext.rfl', r3⟩
      · cases e
    · rename_i y0 ys ey
      split at e
      · rename_i ho
        cases e
        have o := ordAll_ok ho
        obtain ⟨a, zs, rfl, s1, q, hz⟩ := view_tup r1 ey
        cases (show u = Value.ref a from ry)
        obtain ⟨its, rv, pl, hz2⟩ := I.tuple (by rw [ok.k]; exact s1.t)
        obtain ⟨as, ra, hp, k⟩ := best_facts ok I o q rv
        refine W.max_tuple_data hh (show s.heap.IsTuple a its.toArray from pl) ra k.1 (by omega) fun i w h' tk bs hw hr2 hk => ?_
        rw [maxD_ok o] at hr2
        obtain ⟨zv, r2, r3⟩ := hp i w h' _ bs vmax_mem (by simpa using hw) hk hr2
        exact ⟨zv, H, I.kept (t' := tk) hk, r2, Ext.rfl', r3⟩
      · cases e
    · cases e
  · cases e
end
end SW

namespace SW
open PySem PySem.Spec PyProof.Rows L2
/-! ### x += i -/
def gIAdd (_ : PH) (x y : Val) : Option Val := match x, y with
  | .int i, .int j => some (.int (i + j))
  | _, _ => none
def gISub (_ : PH) (x y : Val) : Option Val := match x, y with
  | .int i, .int j => some (.int (i - j))
  | _, _ => none
section
variable {T : Tab} {X : Cx}
theorem iadd_S : OpS T X (inplaceOp .Add) gIAdd := OpS.of iop_add fun hr r1 r2 e k => by
  unfold gIAdd at e
  split at e
  · cases e
    cases r1
    cases r2
    exact ⟨_, _, rfl, rfl, k _ _ Ext.rfl' (.int _)⟩
  · cases e
theorem isub_S : OpS T X (inplaceOp .Sub) gISub := OpS.of iop_sub fun hr r1 r2 e k => by
  unfold gISub at e
  split at e
  · cases e
    cases r1
    cases r2
    exact ⟨_, _, rfl, rfl, k _ _ Ext.rfl' (.int _)⟩
  · cases e
end
end SW

namespace SW
open PySem PySem.Spec PyProof.Rows L2

/-! ### t[::-1] of a tuple -/
section
variable {prog : Program} {w : World} {A : Around} {E : Value → Shared → Prop} {s : Shared}
theorem back_adjust (n : Nat) : Builtin.Slice.sliceAdjust none none (-1) (n : Int) = ((n : Int) - 1, -1) := by simp [Builtin.Slice.sliceAdjust]
theorem back_places (n : Nat) : Builtin.Slice.slicePlaces ((n : Int) - 1) (-1) (-1) = n := by
  have h1 : ¬ ((-1 : Int) > 0) := by decide
  unfold Builtin.Slice.slicePlaces
  rw [if_neg h1]
  by_cases h : (n : Int) - 1 > -1
  · rw [if_pos h, show (-(-1) : Int) = 1 from by decide, Int.ediv_one]; omega
  · rw [if_neg h]; omega
theorem back_applied {sl : Addr} {vl vu vs : Value} {n : Nat} {Q : Int × Int × Nat → Shared → Prop} (hs : s.heap.IsSliceOf sl vl vu vs) (pl : IsPart vl none) (pu : IsPart vu none) (ps : IsPart vs (some (-1))) (h : Q ((n : Int) - 1, -1, n) s) :
    wpAny (model prog w) A (Builtin.Slice.sliceApplied (.ref sl) (pure (n : Int))) Q E s := by
  obtain ⟨os, hos, hcs, hds⟩ := id hs
  unfold Builtin.Slice.sliceApplied Builtin.Slice.sliceFields
  refine wpAny_bind (wpAny_bind (wpAny_field hos hds (x := vl) rfl (wpAny_bind (wpAny_field hos hds (x := vu) rfl (wpAny_bind (wpAny_field hos hds (x := vs) rfl (wpAny_pure ?_)))))))
  refine wpAny_bind (HT.slicePart_ ps ?_)
  show wpAny _ _ (if ((-1 : Int) == 0) = true then _ else _) _ _ s; rw [if_neg (by decide)]
  refine wpAny_bind (HT.slicePart_ pl (wpAny_bind (HT.slicePart_ pu (wpAny_bind (wpAny_pure ?_)))))
  show wpAny _ _ (match Builtin.Slice.sliceAdjust none none (-1) (n : Int) with | (lo, hi) => pure (lo, (-1 : Int), Builtin.Slice.slicePlaces lo hi (-1))) _ _ s; rw [back_adjust]
  show wpAny _ _ (pure ((n : Int) - 1, (-1 : Int), Builtin.Slice.slicePlaces ((n : Int) - 1) (-1) (-1))) _ _ s; rw [back_places]; exact wpAny_pure h
theorem fm_congr {α β : Type} {f g : α → Option β} : ∀ {l : List α}, (∀ a ∈ l, f a = g a) → l.filterMap f = l.filterMap g
  | [], _ => rfl
  | a :: l, h => by
    rw [List.filterMap_cons, List.filterMap_cons, h a (List.mem_cons_self ..), fm_congr fun b hb => h b (List.mem_cons_of_mem _ hb)]
theorem back_pick (xs : Array Value) : ((List.range xs.size).filterMap fun (m : Nat) => xs[(((xs.size : Int) - 1) + (m : Int) * (-1)).toNat]?).toArray = xs.toList.reverse.toArray := by
  have e : ∀ m ∈ List.range xs.size, xs[(((xs.size : Int) - 1) + (m : Int) * (-1)).toNat]? = (fun i => xs[i]?) (xs.size - 1 - m) := fun m hm => by
    have := List.mem_range.mp hm
    show _ = xs[xs.size - 1 - m]?
    congr 1; omega
  rw [fm_congr e, show (List.range xs.size).filterMap (fun m => (fun i => xs[i]?) (xs.size - 1 - m)) = ((List.range xs.size).map fun k => xs.size - 1 - k).filterMap (fun i => xs[i]?) by rw [List.filterMap_map]; rfl, W.krv_range, List.filterMap_reverse, W.krv_all]
theorem back_get {t sl : Addr} {items : Array Value} {vl vu vs : Value} {Q : Value → Shared → Prop} (ht : IsTup s.heap t items) (hs : s.heap.IsSliceOf sl vl vu vs) (pl : IsPart vl none) (pu : IsPart vu none) (ps : IsPart vs (some (-1)))
    (h : Q (.ref s.heap.objs.size) { s with heap := s.heap.push { cls := .type "tuple", data := .seq items.toList.reverse.toArray } }) (hsz : items.size ≤ sizeLine) : wpAny (model prog w) A (getItem (.ref t) (.ref sl)) Q E s := by
  have sz : sizeOk (.seq items.toList.reverse.toArray) := by
    show items.toList.reverse.toArray.size ≤ sizeLine
    rw [List.size_toArray, List.length_reverse, Array.length_toList]; exact hsz
  obtain ⟨os, hos, hcs, hds⟩ := id hs
  have hTs : s.TypeIs (.ref sl) "slice" := ⟨os, hos, hcs⟩
  unfold getItem; try with_reducible refine wpAny_holding ?_
  first | refine wpAny_bind (wpAny_pure ?_) | skip
  refine wpAny_bind (wpAny_sequenceKey ht.typeIs (by decide) (wpAny_bind (wpAny_callSpecial?_slot (name := Str.ofString "__getitem__") ht.typeIs slot_tuple_getitem (wpAny_call_entry slot_tuple_getitem ht.typeIs entry_tuple_getitem ?_ (args_tuple_getitem _ _)))))
  show wpAny _ _ (Builtin.Tuple.tupleItemsOf (.ref t) >>= _) _ _ s; refine wpAny_bind (tupleItemsOf_ ht (wpAny_bind (wpAny_typeOf hTs ?_)))
  rw [if_pos (by decide)]; refine wpAny_bind (back_applied hs pl pu ps ?_)
  have hno : ¬ ((((items.size : Int) - 1) == 0 && (-1 : Int) == 1 && items.size == items.size) = true) := by
    intro q
    rw [Bool.and_eq_true, Bool.and_eq_true] at q
    exact absurd q.1.2 (by decide)
  show wpAny _ _ (if (((items.size : Int) - 1) == 0 && (-1 : Int) == 1 && items.size == items.size) = true then _ else _) _ _ s
  rw [if_neg hno, back_pick]
  first
    | exact wpAny_bind (m := Builtin.Tuple.tupleExact _) (wpAny_newObj_type (wpAny_pure ⟨_, rfl, wpAny_pure h⟩) sz)
    | exact wpAny_bind (m := Builtin.Tuple.tupleExact _) (wpAny_newObj_type (wpAny_bind (wpAny_pure (wpAny_pure ⟨_, rfl, wpAny_pure h⟩))) sz)
    | exact wpAny_bind (wpAny_bind (m := Builtin.Tuple.tupleExact _) (wpAny_newObj_type (wpAny_pure (wpAny_pure ⟨_, rfl, wpAny_pure h⟩)) sz))
    | exact wpAny_bind (wpAny_bind (m := Builtin.Tuple.tupleExact _) (wpAny_newObj_type (wpAny_pure ⟨_, rfl, wpAny_pure h⟩) sz))
end
def tRevT (K : PySem.W.Frag) (te : TE) : TE := fun σ H Q => te σ H fun x H1 => ∃ a xs, x = .ref a ∧ SqT K H1 a xs ∧ NewT xs.reverse H1 Q
theorem pe_revT {X : Cx} {e : Expr} {te : TE} {k : Nat} {p1 p2 p3 pos : Pos} (he : PE X e te) : PE X (.Subscript e (.Slice none none (some (.UnaryOp .USub (.Constant (.int 1) k p1) p2)) p3) pos) (tRevT X.K te) := ⟨fun pins s σ H Q I h => by
  refine Subscript_ (thn (he.run pins s σ H _ I h) fun v s1 ⟨x, H1, I1, r1, a, xs, ex, hx, q⟩ => ?_)
  subst ex; cases r1
  have hst : PO X (some (.UnaryOp .USub (.Constant (.int 1) k p1) p2)) (tPart (tUn (rU fun i => .int (-i)) (tC (.int 1)))) := po_some (pe_un un_neg pe_int)
  refine wpAny_Slice (thn (po_none.run pins s1 σ H1 (fun o H2 => o = none ∧ H2 = H1) I1 ⟨rfl, rfl⟩) fun vl s2 ⟨l, H2, I2, pl, el, e2⟩ => ?_); subst el e2
  refine thn (po_none.run pins s2 σ H2 (fun o H3 => o = none ∧ H3 = H2) I2 ⟨rfl, rfl⟩) fun vu s3 ⟨u, H3, I3, pu, eu, e3⟩ => ?_; subst eu e3
  refine thn (hst.run pins s3 σ H3 (fun o H4 => o = some (-1) ∧ H4 = H3) I3 ⟨1, rfl, -1, rfl, rfl, rfl⟩) fun vs s4 ⟨o, H4, I4, ps, eo, e4⟩ => ?_; subst eo e4
  have I5 : Inv X pins σ H4 { s4 with heap := s4.heap.push { cls := .type "slice", data := .fields #[vl, vu, vs] } } := I4.kept (t' := s4.toks) fun b ob hq => Heap.get?_push_of_some _ hq
  obtain ⟨its, r, ht, hz⟩ := I5.tuple hx
  have hlen := r.length
  show wpAny (model X.prog X.w) X.A (subscriptTail e (.Slice none none (some (.UnaryOp .USub (.Constant (.int 1) k p1) p2)) p3) (.ref a) (.ref s4.heap.objs.size)) (EP X pins σ Q) X.xe { s4 with heap := s4.heap.push { cls := .type "slice", data := .fields #[vl, vu, vs] } }
  refine tail_any (ops := [.ref a, .ref s4.heap.objs.size]) ht.typeIs slot_tuple_getitem.lookup ?_ (by with_unfolding_all rfl)
  refine back_get ht (Heap.IsSliceOf.new _ vl vu vs) pl pu ps ?_ (by rw [List.size_toArray]; omega)
  exact laidB (tk := s4.toks) I5 r.reverse (by rw [List.length_reverse]; exact hz) q⟩
def eRevA (a : Ex) : Ex := fun r h => match a r h with
  | .ok (.tup xs) h1 => .ok (.tup xs.reverse) h1
  | _ => eFrz (eUnN gRevN a) r h
section
variable {T : Tab} {X : Cx} {a : Expr} {ma : Ex} {p1 p2 p3 pos : Pos} {k : Nat}
theorem ce_revA (ha : CE T X a ma) : CE T X (.Subscript a (.Slice none none (some (.UnaryOp .USub (.Constant (.int 1) k p1) p2)) p3) pos) (eRevA ma) := fun ok W tk => ⟨fun pins s σ H Q I ⟨U, m, r, h, hr, er, o⟩ => by
  unfold eRevA at o
  split at o
  · rename_i xs h1 e
    refine (pe_revT (ha ok W tk)).run pins s σ H Q I ⟨U, m, r, h, hr, er, ?_⟩
    rw [e]
    intro H1 U1 m1 g hr1 x rx
    cases rx with
    | tup h0 h1 h2 =>
      exact ⟨_, _, rfl, by rw [ok.k]; exact h1.t, fun p ob hp b => o _ U1 m1 (g.trans (Gr.of_ext (ext_upd hp))) (hr1.ext (ext_upd hp)) _ (rep_newtup hr1 hp b h2.reverse (by rw [List.length_reverse]; exact h0))⟩
  · exact (ce_frz (cn_revL ha) ok W tk).run pins s σ H Q I ⟨U, m, r, h, hr, er, o⟩⟩
end
end SW

namespace SW
open PySem PySem.Spec PyProof.Rows L2

/-! ### a call with one located argument, the rest apart -/
def ref1 : List Val → Option (Nat × List Val)
  | [] => none
  | v :: vs => match v with
    | .ref l => if frees vs then some (l, .ref 0 :: vs) else none
    | v => if free v then (ref1 vs).map fun p => (p.1, v :: p.2) else none
def apart1 (d : Dm) (vs : List Val) : SM Val := fun h => match ref1 vs with
  | some (l, ws) => (match h[l]? with
    | some o => if free o && !nonB o then (match d ws [o] with
        | .ok v (o2 :: _) => if free v && free o2 && !nonB o2 then .ok v (h.set l o2) else .stuck
        | .exc e (o2 :: _) => if exFlat e && free o2 && !nonB o2 then .exc e (h.set l o2) else .stuck
        | _ => .stuck) else .stuck
    | none => .stuck)
  | none => .stuck
section
variable {T : Tab} {H H' : Hp} {U U' : Addr → Prop} {m m' : List (Option Addr)} {h : PH}
theorem free_obj {a : Addr} {o : Val} (hf : free o = true) (hU : ∀ a, U a → U' a) (q : ObjAt T H U' m' a o) : ObjAt T H U m a o := by
  have k : ∀ {vs : List Val} {xs : List V}, frees vs = true → Reps T H U' m' vs xs → Reps T H U m vs xs := fun hz r => dvs0_rep (f := fun _ => none) hU (fun _ _ _ e _ => by cases e) (dvs0_free _ hz) r
  cases o with
  | lst vs => obtain ⟨xs, e1, e2, e3⟩ := q; exact ⟨xs, e1, k (by simpa [free] using hf) e2, e3⟩
  | dct ks vs =>
    have hz : frees vs = true := by simpa [free] using hf
    rcases q with ⟨kvs, e1, e2, e3⟩ | ⟨kvs, e1, e2, e3⟩
    · exact .inl ⟨kvs, e1, e2, k hz e3⟩
    · exact .inr ⟨kvs, e1, e2, k hz e3⟩
  | ins c vs => obtain ⟨dx, xs, e1, e2, e3⟩ := q; exact ⟨dx, xs, e1, e2, k (by simpa [free] using hf) e3⟩
  | _ => exact q.elim
theorem ref1_rep {a : Addr} : ∀ {vs ws : List Val} {xs : List V} {l : Nat}, ref1 vs = some (l, ws) → m[l]? = some (some a) → Reps T H U m vs xs → Reps T H U [some a] ws xs
  | [], ws, xs, l, e, ha, r => by cases e
  | v :: vs, ws, xs, l, e, ha, r => by
    have k : ∀ {vs : List Val} {xs : List V}, frees vs = true → Reps T H U m vs xs → Reps T H U [some a] vs xs := fun hz r => dvs0_rep (f := fun _ => none) (fun _ z => z) (fun _ _ _ e _ => by cases e) (dvs0_free _ hz) r
    unfold ref1 at e
    cases r with
    | cons r1 r2 =>
      split at e
      · rename_i l'
        split at e
        · rename_i hf
          cases e
          refine .cons ?_ (k hf r2)
          cases r1 with
          | ref h1 h2 =>
            refine .ref (by simp) fun b hb => ?_
            simp at hb; subst hb
            exact h2 a ha
        · cases e
      · split at e
        · rename_i hf
          cases q : ref1 vs with
          | none => rw [q] at e; cases e
          | some p =>
            rw [q] at e; cases e
            refine .cons ?_ (ref1_rep (ws := p.2) (l := p.1) q ha r2)
            exact dv0_rep (f := fun _ => none) (fun _ z => z) (fun _ _ _ e _ => by cases e) (dv0_free _ hf) r1
        · cases e
theorem apart1_ok {W : WC} {Q : VK} {vs : List Val} {xs : List V} {d : Dm} (hr : HR T H U m h) (rv : Reps T H U m vs xs) (o : Out T H U m W (apart1 d vs h) fun v _ H' U' m' => ∀ x, Rep T H' U' m' v x → Q x H') : Asked T H W d xs Q := by
  unfold apart1 at o
  split at o
  case h_2 => exact (show False from o).elim
  rename_i l ws hl
  split at o
  case h_2 => exact (show False from o).elim
  rename_i ob hob
  split at o
  case isFalse => exact (show False from o).elim
  rename_i hf
  simp only [Bool.and_eq_true] at hf
  rcases hr.obj l ob hob with ⟨_, e0⟩ | ⟨a, ha, oa⟩
  · subst e0; simp [nonB] at hf
  have lva : Lv m a := ⟨l, ha⟩
  have hr0 : HR T H U [some a] [ob] := by
    refine ⟨rfl, fun i j b e1 e2 => ?_, fun b ⟨i, e⟩ => ?_, hr.us, fun i w e => ?_⟩
    · have h1 := (List.getElem?_eq_some_iff.mp e1).1
      have h2 := (List.getElem?_eq_some_iff.mp e2).1
      simp at h1 h2; omega
    · have h1 := (List.getElem?_eq_some_iff.mp e).1
      have : i = 0 := by simpa using h1
      subst this; simp at e; subst e
      exact hr.sub _ lva
    · have h1 := (List.getElem?_eq_some_iff.mp e).1
      have : i = 0 := by simpa using h1
      subst this; simp at e; subst e
      exact .inr ⟨a, rfl, free_obj hf.1 (fun _ z => z) oa⟩
  refine ⟨U, [some a], [ob], ws, hr0, ref1_rep hl ha rv, ?_⟩
  -- what both ends share
  have key : ∀ {o2 : Val} {t : PH} {H' U' m'}, free o2 = true → (!nonB o2) = true → Gr H U [some a] H' U' m' → HR T H' U' m' (o2 :: t) →
      Gr H U m H' U m ∧ HR T H' U m (h.set l o2) ∧ (∀ b, U b → U' b) := by
    intro o2 t H' U' m' f2 n2 g hr'
    have nb : ∀ b, b ≠ a → ¬ Lv [some a] b := fun b hb ⟨i, e⟩ => by
      have h1 := (List.getElem?_eq_some_iff.mp e).1
      have : i = 0 := by simpa using h1
      subst this; simp at e; exact hb e.symm
    have gr : Gr H U m H' U m := ⟨fun b o2 hb e => g.keep b o2 (nb b fun z => hb (z ▸ lva)) e, fun b z => .inl z, .refl, g.there, fun b z _ _ => z⟩
    obtain ⟨ha2, oa2⟩ : m'[0]? = some (some a) ∧ ObjAt T H' U' m' a o2 := by
      rcases hr'.obj 0 o2 rfl with ⟨_, e0⟩ | ⟨a2, ha2, oa2⟩
      · subst e0; simp [nonB] at n2
      · have := g.ext.old 0 a2 (by simp) ha2
        simp at this; subst this
        exact ⟨ha2, oa2⟩
    have hU : ∀ b, U b → U' b := fun b hb => by
      by_cases e : b = a
      · subst e; exact hr'.sub _ ⟨0, ha2⟩
      · obtain ⟨u, e1, _⟩ := hr.us b hb
        exact g.up b hb (by rw [e1]; exact fun z => nomatch z) (nb b e)
    refine ⟨gr, ⟨by simp [hr.len], hr.nd, hr.sub, fun b hb => hr'.us b (hU b hb), fun k w e => ?_⟩, hU⟩
    by_cases hk : l = k
    · subst hk
      rw [List.getElem?_set] at e
      have hl' : l < h.length := (List.getElem?_eq_some_iff.mp hob).1
      rw [if_pos rfl, if_pos hl'] at e
      cases e
      exact .inr ⟨a, ha, free_obj f2 hU oa2⟩
    · rw [List.getElem?_set_ne hk] at e
      rcases hr.obj k w e with z | ⟨b, e1, e2⟩
      · exact .inl z
      · have hne : b ≠ a := fun e => by subst e; exact hk (hr.nd _ _ _ ha e1)
        obtain ⟨u, eu, _⟩ := e2.some
        exact .inr ⟨b, e1, e2.gr hr gr ((g.keep b u (nb b hne) eu).trans eu.symm)⟩
  split at o
  · rename_i v o2 t e
    split at o
    case isFalse => exact (show False from o).elim
    rename_i hc
    simp only [Bool.and_eq_true] at hc
    rw [e]
    intro H' U' m' g hr' x rx
    obtain ⟨gr, hr2, hU⟩ := key hc.1.2 hc.2 g hr'
    exact o H' U m gr hr2 x (dv0_rep (f := fun _ => none) hU (fun _ _ _ e _ => by cases e) (dv0_free _ hc.1.1) rx)
  · rename_i ev o2 t e
    split at o
    case isFalse => exact (show False from o).elim
    rename_i hc
    simp only [Bool.and_eq_true] at hc
    rw [e]
    intro H' U' m' cls dd g hr' xr
    obtain ⟨gr, hr2, hU⟩ := key hc.1.2 hc.2 g hr'
    exact o H' U m cls dd gr hr2 (exr_flat hc.1.1 xr)
  · exact (show False from o).elim
end
def eCall1 (d : Dm) (ms : List Ex) : Ex := eCallD (apart1 d) ms
section
variable {T : Tab} {X : Cx} {e : Expr} {es : List Expr} {ms : List Ex} {x : Str} {p pos : Pos} {n : Nat} {d : Dm}
theorem ce_call1 (D : Dk T X x n d) (hg : Gl X x) (ha : CA T X (e :: es) (eArgs ms)) (hn : ms.length = n := by rfl)
    (hdb : (x == ("__debug__" : Str)) = false := by decide) (he : starEach (e :: es) X.env = (false, eval e X.env) :: starEach es X.env := by rfl) (hpl : (backTo pos (starEach es X.env)).any (·.1) = false := by rfl) : CE T X (.Call (.Name x p) (e :: es) [] pos) (eCall1 d ms) := fun ok W tk =>
  pe_dk D hg ha ok tk (fun σ H Q q => args_n hn apart1_ok q) hdb he hpl
end

/-! ### what is forgotten -/
section
variable {T : Tab} {H H' : Hp} {U U' : Addr → Prop} {m m' : List (Option Addr)} {h : PH} {r : Ev} {σ : L2.St}
theorem ER.drop1 (e : ER T H U m r σ) (i : Nat) : ER T H U m (r.set i none) σ := by
  refine ⟨by simp [e.len], fun j w q' => ?_⟩
  by_cases hj : i = j
  · subst hj
    rw [List.getElem?_set] at q'
    by_cases hl : i < r.length
    · rw [if_pos rfl, if_pos hl] at q'; cases q'
    · rw [if_pos rfl, if_neg hl] at q'; cases q'
  · rw [List.getElem?_set_ne hj] at q'
    exact e.val j w q'
theorem ER.drops (e : ER T H U m r σ) : ∀ vs : List Nat, ER T H U m (wipeE r vs) σ
  | [] => e
  | v :: vs => (ER.drops e vs).drop1 v
end
/-! refs below n alone -/
mutual
def below (n : Nat) : Val → Bool
  | .tup xs => belows n xs
  | .lst xs => belows n xs
  | .dct _ vs => belows n vs
  | .ins _ fs => belows n fs
  | .ref l => decide (l < n)
  | _ => true
def belows (n : Nat) : List Val → Bool
  | [] => true
  | v :: vs => below n v && belows n vs
end
def belE (n : Nat) : Ev → Bool
  | [] => true
  | none :: r => belE n r
  | some v :: r => below n v && belE n r
mutual
theorem below_free (n : Nat) : ∀ {v : Val}, free v = true → below n v = true
  | .tup xs, h => by unfold below; exact belows_free n (by simpa [free] using h)
  | .lst xs, h => by unfold below; exact belows_free n (by simpa [free] using h)
  | .dct ks xs, h => by unfold below; exact belows_free n (by simpa [free] using h)
  | .ins c xs, h => by unfold below; exact belows_free n (by simpa [free] using h)
  | .ref _, h => by simp [free] at h
  | .non, _ => rfl
  | .bl _, _ => rfl
  | .int _, _ => rfl
  | .str _, _ => rfl
theorem belows_free (n : Nat) : ∀ {vs : List Val}, frees vs = true → belows n vs = true
  | [], _ => rfl
  | v :: vs, h => by
    simp only [frees, Bool.and_eq_true] at h
    unfold belows
    rw [below_free n h.1, belows_free n h.2]; rfl
end
/-- the new located objects are dropped -/
def cutH (n : Nat) (h : PH) : Option PH := if n ≤ h.length && belows n (h.take n) then some (h.take n) else none
def sWipe (ws : List Nat) (b : Stm) : Stm := fun r h => (b r h).bind fun f h' => match f with
  | .nx r' => .ok (.nx (wipeE r' ws)) h'
  | .ct r' => .ok (.ct (wipeE r' ws)) h'
  | .bk r' => .ok (.bk (wipeE r' ws)) h'
  | .rt v => .ok (.rt v) h'
/-- forgotten ahead -/
def sPre (ws : List Nat) (b : Stm) : Stm := fun r h => b (wipeE r ws) h
/-- the new located objects are forgotten behind -/
def sScope (b : Stm) : Stm := fun r h => (b r h).bind fun f h' => match f with
  | .nx r' => if belE h.length r' then (match cutH h.length h' with | some h2 => .ok (.nx r') h2 | none => .stuck) else .stuck
  | .ct r' => if belE h.length r' then (match cutH h.length h' with | some h2 => .ok (.ct r') h2 | none => .stuck) else .stuck
  | .bk r' => if belE h.length r' then (match cutH h.length h' with | some h2 => .ok (.bk r') h2 | none => .stuck) else .stuck
  | .rt v => .ok (.rt v) h'
section
variable {T : Tab} {H H' : Hp} {U U' : Addr → Prop} {m m' : List (Option Addr)} {h : PH} {n : Nat}
mutual
theorem below_rep : ∀ {v : Val} {x : V}, below n v = true → n ≤ m.length → Rep T H U m v x → Rep T H U (m.take n) v x
  | .non, _, _, _, r => by cases r; exact .non
  | .bl _, _, _, _, r => by cases r; exact .bl _
  | .int _, _, _, _, r => by cases r; exact .int _
  | .str _, _, _, _, r => by cases r; exact .str _
  | .tup xs, _, h, hn, r => by
    cases r with
    | tup h0 h1 h2 => exact .tup h0 h1 (belows_rep (by simpa [below] using h) hn h2)
  | .lst xs, _, h, hn, r => by
    cases r with
    | lst h0 h1 h2 h3 => exact .lst h0 h1 h2 (belows_rep (by simpa [below] using h) hn h3)
  | .dct ks xs, _, h, hn, r => by
    cases r with
    | dK h1 h2 h3 h4 => exact .dK h1 h2 h3 (belows_rep (by simpa [below] using h) hn h4)
    | dT h1 h2 h3 h4 => exact .dT h1 h2 h3 (belows_rep (by simpa [below] using h) hn h4)
  | .ins c xs, _, h, hn, r => by
    cases r with
    | scr h0 h1 h4 => exact .scr h0 h1 (belows_rep (by simpa [below] using h) hn h4)
    | pr h0 h1 h2 => exact .pr h0 h1 (belows_rep (by simpa [below] using h) hn h2)
    | ins h0 h1 h2 h3 h4 => exact .ins h0 h1 h2 h3 (belows_rep (by simpa [below] using h) hn h4)
  | .ref l, _, h, hn, r => by
    cases r with
    | ref h1 h2 =>
      have hl : l < n := by simpa [below] using h
      refine .ref (by rw [List.length_take]; omega) fun a e => h2 a ?_
      rw [List.getElem?_take, if_pos hl] at e
      exact e
theorem belows_rep : ∀ {vs : List Val} {xs : List V}, belows n vs = true → n ≤ m.length → Reps T H U m vs xs → Reps T H U (m.take n) vs xs
  | [], _, _, _, r => by cases r; exact .nil
  | v :: vs, _, h, hn, r => by
    simp only [belows, Bool.and_eq_true] at h
    cases r with
    | cons r1 r2 => exact .cons (below_rep h.1 hn r1) (belows_rep h.2 hn r2)
end
theorem belE_get : ∀ {r : Ev} {i : Nat} {v : Val}, belE n r = true → r[i]? = some (some v) → below n v = true
  | [], i, v, h, e => by simp at e
  | none :: r, 0, v, h, e => by simp at e
  | none :: r, i + 1, v, h, e => belE_get (r := r) (i := i) (by simpa [belE] using h) (by simpa using e)
  | some w :: r, 0, v, h, e => by
    simp at e; subst e
    simp only [belE, Bool.and_eq_true] at h; exact h.1
  | some w :: r, i + 1, v, h, e => by
    simp only [belE, Bool.and_eq_true] at h
    exact belE_get (r := r) (i := i) h.2 (by simpa using e)
theorem belows_get : ∀ {vs : List Val} {i : Nat} {v : Val}, belows n vs = true → vs[i]? = some v → below n v = true
  | [], i, v, h, e => by simp at e
  | w :: r, 0, v, h, e => by
    simp at e; subst e
    simp only [belows, Bool.and_eq_true] at h; exact h.1
  | w :: r, i + 1, v, h, e => by
    simp only [belows, Bool.and_eq_true] at h
    exact belows_get (vs := r) (i := i) h.2 (by simpa using e)
theorem below_obj {a : Addr} {o : Val} (hb : below n o = true) (hn : n ≤ m.length) (q : ObjAt T H U m a o) : ObjAt T H U (m.take n) a o := by
  cases o with
  | lst vs => obtain ⟨xs, e1, e2, e3⟩ := q; exact ⟨xs, e1, belows_rep (by simpa [below] using hb) hn e2, e3⟩
  | dct ks vs =>
    have hz : belows n vs = true := by simpa [below] using hb
    rcases q with ⟨kvs, e1, e2, e3⟩ | ⟨kvs, e1, e2, e3⟩
    · exact .inl ⟨kvs, e1, e2, belows_rep hz hn e3⟩
    · exact .inr ⟨kvs, e1, e2, belows_rep hz hn e3⟩
  | ins c vs => obtain ⟨dx, xs, e1, e2, e3⟩ := q; exact ⟨dx, xs, e1, e2, belows_rep (by simpa [below] using hb) hn e3⟩
  | _ => exact q.elim
theorem cut_hr {h' h2 : PH} (e : cutH n h' = some h2) (g : Gr H U m H' U' m') (hn : n = m.length) (hr : HR T H' U' m' h') : Gr H U m H' U' (m'.take n) ∧ HR T H' U' (m'.take n) h2 ∧ n ≤ m'.length := by
  unfold cutH at e
  split at e
  case isFalse => cases e
  rename_i hc
  simp only [Bool.and_eq_true, decide_eq_true_eq] at hc
  cases e
  have hle : n ≤ m'.length := by rw [hr.len]; exact hc.1
  have tk : ∀ {i : Nat} {a : Addr}, (m'.take n)[i]? = some (some a) → m'[i]? = some (some a) := fun {i a} e => by
    rw [List.getElem?_take] at e
    split at e
    · exact e
    · cases e
  have lv : ∀ {a : Addr}, Lv (m'.take n) a → Lv m' a := fun ⟨i, e⟩ => ⟨i, tk e⟩
  refine ⟨⟨g.keep, g.new, ⟨by rw [List.length_take]; omega, fun l a hl e => g.ext.old l a hl (tk e), fun l a hl e => g.ext.new l a hl (tk e)⟩, g.there, g.up⟩, ⟨by rw [List.length_take, List.length_take, hr.len], fun l k a e1 e2 => hr.nd l k a (tk e1) (tk e2), fun a ha => hr.sub a (lv ha), hr.us, fun l o q => ?_⟩, hle⟩
  have hl : l < n := by
    have := (List.getElem?_eq_some_iff.mp q).1
    rw [List.length_take] at this; omega
  have q' : h'[l]? = some o := by
    rw [List.getElem?_take, if_pos hl] at q; exact q
  rcases hr.obj l o q' with ⟨e1, e2⟩ | ⟨a, e1, e2⟩
  · exact .inl ⟨by rw [List.getElem?_take, if_pos hl]; exact e1, e2⟩
  · exact .inr ⟨a, by rw [List.getElem?_take, if_pos hl]; exact e1, below_obj (belows_get hc.2 q) hle e2⟩
theorem ER.below {r : Ev} {σ : L2.St} (hb : belE n r = true) (hn : n ≤ m.length) (e : ER T H U m r σ) : ER T H U (m.take n) r σ := ⟨e.len, fun i v q => by
  obtain ⟨x, e1, e2⟩ := e.val i v q
  exact ⟨x, e1, below_rep (belE_get hb q) hn e2⟩⟩
end
section
variable {T : Tab} {X : Cx} {st : Stmt} {sts : List Stmt} {b : Stm}
theorem wipe_out' {W : WC} {D : Ends} {H : Hp} {U : Addr → Prop} {m : List (Option Addr)} {r : Ev} {h : PH} {ws : List Nat} (o : Out T H U m W (sWipe ws b r h) fun f _ H' U' m' => KF T D f H' U' m') : Out T H U m W (b r h) fun f _ H' U' m' => KF T D f H' U' m' := by
  unfold sWipe at o
  cases e : b r h with
  | stuck => rw [e] at o; exact o
  | exc _ _ => rw [e] at o; exact o
  | ok f h' =>
    rw [e] at o
    intro H' U' m' g hr'
    cases f with
    | nx r' => exact fun σ' er => o H' U' m' g hr' σ' (er.drops ws)
    | ct r' => exact fun σ' er => o H' U' m' g hr' σ' (er.drops ws)
    | bk r' => exact fun σ' er => o H' U' m' g hr' σ' (er.drops ws)
    | rt v => exact o H' U' m' g hr'
theorem scope_out {W : WC} {D : Ends} {H : Hp} {U : Addr → Prop} {m : List (Option Addr)} {r : Ev} {h : PH} (hr : HR T H U m h) (o : Out T H U m W (sScope b r h) fun f _ H' U' m' => KF T D f H' U' m') : Out T H U m W (b r h) fun f _ H' U' m' => KF T D f H' U' m' := by
  unfold sScope at o
  cases e : b r h with
  | stuck => rw [e] at o; exact o
  | exc _ _ => rw [e] at o; exact o
  | ok f h' =>
    rw [e] at o
    simp only [Res.bind] at o
    intro H' U' m' g hr'
    cases f with
    | nx r' =>
      simp only at o
      split at o
      case isFalse => exact (show False from o).elim
      rename_i hb
      split at o
      case h_2 => exact (show False from o).elim
      rename_i h2 eh
      intro σ' er
      obtain ⟨g2, hr2, hle⟩ := cut_hr eh g hr.len.symm hr'
      exact o H' U' _ g2 hr2 σ' (ER.below hb hle er)
    | ct r' =>
      simp only at o
      split at o
      case isFalse => exact (show False from o).elim
      rename_i hb
      split at o
      case h_2 => exact (show False from o).elim
      rename_i h2 eh
      intro σ' er
      obtain ⟨g2, hr2, hle⟩ := cut_hr eh g hr.len.symm hr'
      exact o H' U' _ g2 hr2 σ' (ER.below hb hle er)
    | bk r' =>
      simp only at o
      split at o
      case isFalse => exact (show False from o).elim
      rename_i hb
      split at o
      case h_2 => exact (show False from o).elim
      rename_i h2 eh
      intro σ' er
      obtain ⟨g2, hr2, hle⟩ := cut_hr eh g hr.len.symm hr'
      exact o H' U' _ g2 hr2 σ' (ER.below hb hle er)
    | rt v => exact o H' U' m' g hr'
theorem css_wipe (ws : List Nat) (hb : CSs T X sts b) : CSs T X sts (sWipe ws b) := fun ok po W tk => pss_imp (hb ok po W tk) fun D σ H ⟨U, m, r, h, hr, er, o⟩ => ⟨U, m, r, h, hr, er, wipe_out' o⟩
theorem css_scope (hb : CSs T X sts b) : CSs T X sts (sScope b) := fun ok po W tk => pss_imp (hb ok po W tk) fun D σ H ⟨U, m, r, h, hr, er, o⟩ => ⟨U, m, r, h, hr, er, scope_out hr o⟩
theorem cs_pre (ws : List Nat) (hb : CS T X st b) : CS T X st (sPre ws b) := fun ok po W tk => ps_imp (hb ok po W tk) fun D σ H ⟨U, m, r, h, hr, er, o⟩ => ⟨U, m, wipeE r ws, h, hr, er.drops ws, o⟩
theorem cs_wipe (ws : List Nat) (hb : CS T X st b) : CS T X st (sWipe ws b) := fun ok po W tk => ps_imp (hb ok po W tk) fun D σ H ⟨U, m, r, h, hr, er, o⟩ => ⟨U, m, r, h, hr, er, wipe_out' o⟩
end
end SW

namespace SW
open PySem PySem.Spec PyProof.Rows L2

/-! ### dicts -/
def lkV (k : Val) : List Val → List Val → Option Val
  | q :: ks, v :: vs => if veq q k then some v else lkV k ks vs
  | _, _ => none
def repV (k v : Val) : List Val → List Val → List Val
  | q :: ks, w :: vs => (if veq q k then v else w) :: repV k v ks vs
  | _, _ => []
def putV (k v : Val) (ks vs : List Val) : List Val × List Val := if (lkV k ks vs).isSome then (ks, repV k v ks vs) else (ks ++ [k], vs ++ [v])
theorem veq_k : ∀ a b : L2.Key, veq (kVal a) (kVal b) = decide (a = b)
  | .inl i, .inl j => by simp only [kVal, veq]; exact decide_eq_decide.mpr ⟨fun e => by rw [e], fun e => Sum.inl.inj e⟩
  | .inr x, .inr y => by
    simp only [kVal, veq]
    by_cases e : x = y
    · subst e; simp
    · have h1 : (x == y) = false := beq_eq_false_iff_ne.mpr e
      rw [h1]; exact (decide_eq_false fun z => e (Sum.inr.inj z)).symm
  | .inl i, .inr y => by simp [kVal, veq]
  | .inr x, .inl j => by simp [kVal, veq]
theorem veqs_k : ∀ a b : List L2.Key, veqs (a.map kVal) (b.map kVal) = decide (a = b)
  | [], [] => rfl
  | [], _ :: _ => rfl
  | _ :: _, [] => rfl
  | x :: xs, y :: ys => by
    simp only [List.map_cons, veqs, veq_k, veqs_k xs ys]
    by_cases e : x = y <;> by_cases e2 : xs = ys <;> simp [e, e2]
theorem veq_ks (a b : List L2.Key) : veq (.tup (a.map kVal)) (.tup (b.map kVal)) = decide (a = b) := by simp only [veq]; exact veqs_k a b
section
variable {T : Tab} {H H' : Hp} {U U' : Addr → Prop} {m m' : List (Option Addr)} {κ : Type} [DecidableEq κ] {f : κ → Val}
theorem lkV_some (hf : ∀ a b, veq (f a) (f b) = decide (a = b)) {k : κ} : ∀ {kvs : List (κ × V)} {vs : List Val} {v : Val}, Reps T H U m vs (kvs.map (·.2)) → lkV (f k) (kvs.map fun p => f p.1) vs = some v → ∃ x, valV kvs k = some x ∧ Rep T H U m v x
  | [], vs, v, r, e => by cases r; simp [lkV] at e
  | p :: kvs, vs, v, r, e => by
    cases r with
    | cons r1 r2 =>
      simp only [List.map_cons, lkV, hf] at e
      by_cases q : p.1 = k
      · rw [if_pos (decide_eq_true q)] at e; cases e; exact ⟨p.2, valV_pos q, r1⟩
      · rw [if_neg (by simp [q])] at e
        obtain ⟨x, e1, r3⟩ := lkV_some hf r2 e
        exact ⟨x, by rw [valV_neg q]; exact e1, r3⟩
theorem lkV_none (hf : ∀ a b, veq (f a) (f b) = decide (a = b)) {k : κ} : ∀ {kvs : List (κ × V)} {vs : List Val}, Reps T H U m vs (kvs.map (·.2)) → lkV (f k) (kvs.map fun p => f p.1) vs = none → valV kvs k = none
  | [], vs, r, e => rfl
  | p :: kvs, vs, r, e => by
    cases r with
    | cons r1 r2 =>
      simp only [List.map_cons, lkV, hf] at e
      by_cases q : p.1 = k
      · rw [if_pos (decide_eq_true q)] at e; cases e
      · rw [if_neg (by simp [q])] at e
        rw [valV_neg q]; exact lkV_none hf r2 e
theorem repV_ok (hf : ∀ a b, veq (f a) (f b) = decide (a = b)) {k : κ} {v : Val} {x : V} (rv : Rep T H U m v x) : ∀ {kvs : List (κ × V)} {vs : List Val}, Reps T H U m vs (kvs.map (·.2)) → Reps T H U m (repV (f k) v (kvs.map fun p => f p.1) vs) ((kvs.map fun kv => if kv.1 = k then (kv.1, x) else kv).map (·.2))
  | [], vs, r => by cases r; simp only [List.map_nil, repV]; exact .nil
  | p :: kvs, vs, r => by
    cases r with
    | cons r1 r2 =>
      simp only [List.map_cons, repV, hf]
      refine .cons ?_ (repV_ok hf rv r2)
      by_cases q : p.1 = k
      · rw [if_pos (decide_eq_true q), if_pos q]; exact rv
      · rw [if_neg (by simp [q]), if_neg q]; exact r1
theorem put_keys {k : κ} {x : V} : ∀ kvs : List (κ × V), (kvs.map fun kv => if kv.1 = k then (kv.1, x) else kv).map (fun p => f p.1) = kvs.map fun p => f p.1
  | [] => rfl
  | p :: kvs => by
    simp only [List.map_cons, put_keys kvs]
    by_cases q : p.1 = k
    · rw [if_pos q]
    · rw [if_neg q]
theorem Reps.snoc1 : ∀ {vs : List Val} {xs : List V} {v : Val} {x : V}, Reps T H U m vs xs → Rep T H U m v x → Reps T H U m (vs ++ [v]) (xs ++ [x])
  | [], _, _, _, r, q => by cases r; exact .cons q .nil
  | _ :: _, _, _, _, r, q => by
    cases r with
    | cons r1 r2 => exact .cons r1 (Reps.snoc1 r2 q)
theorem putV_ok (hf : ∀ a b, veq (f a) (f b) = decide (a = b)) {k : κ} {v : Val} {x : V} {kvs : List (κ × V)} {vs : List Val} (r : Reps T H U m vs (kvs.map (·.2))) (rv : Rep T H U m v x) :
    (putV (f k) v (kvs.map fun p => f p.1) vs).1 = (putK kvs k x).map (fun p => f p.1) ∧ Reps T H U m (putV (f k) v (kvs.map fun p => f p.1) vs).2 ((putK kvs k x).map (·.2)) := by
  unfold putV putK
  rw [valV_any]
  cases e : lkV (f k) (kvs.map fun p => f p.1) vs with
  | none =>
    rw [lkV_none hf r e]
    simp only [Option.isSome_none, Bool.false_eq_true, if_false, List.map_append, List.map_cons, List.map_nil]
    exact ⟨trivial, r.snoc1 rv⟩
  | some w =>
    obtain ⟨y, e1, _⟩ := lkV_some hf r e
    rw [e1]
    simp only [Option.isSome_some, if_true]
    exact ⟨(put_keys kvs).symm, repV_ok hf rv r⟩
end
theorem kVal_ne (k : L2.Key) : kVal k ≠ .non := by cases k <;> simp [kVal]
/-- the keys of a dict of the first kind -/
def dKs : List Val → Bool
  | .non :: _ => false
  | _ => true
def isKey : Val → Option L2.Key
  | .int i => some (.inl i)
  | .str x => some (.inr x)
  | _ => none
def isKeys : List Val → Option (List L2.Key)
  | [] => some []
  | v :: vs => match isKey v, isKeys vs with | some k, some ks => some (k :: ks) | _, _ => none
theorem isKey_eq {v : Val} {k : L2.Key} (e : isKey v = some k) : v = kVal k := by
  cases v <;> simp [isKey] at e <;> subst e <;> rfl
theorem isKeys_eq : ∀ {vs : List Val} {ks : List L2.Key}, isKeys vs = some ks → vs = ks.map kVal
  | [], ks, e => by simp [isKeys] at e; subst e; rfl
  | v :: vs, ks, e => by
    simp only [isKeys] at e
    split at e
    · rename_i k ks' e1 e2
      cases e
      rw [List.map_cons, ← isKey_eq e1, ← isKeys_eq e2]
    · cases e
section
variable {T : Tab} {H H' : Hp} {U U' : Addr → Prop} {m m' : List (Option Addr)}
theorem key_rep {k : L2.Key} {x : V} (r : Rep T H U m (kVal k) x) : x = kV k := by cases k <;> (cases r; rfl)
theorem keys_rep : ∀ {ks : List L2.Key} {xs : List V}, Reps T H U m (ks.map kVal) xs → xs = ks.map kV
  | [], _, r => by cases r; rfl
  | k :: ks, _, r => by
    cases r with
    | cons r1 r2 => rw [key_rep r1, keys_rep r2]; rfl
/-- a dict, as it is read -/
def DRep (T : Tab) (H : Hp) (U : Addr → Prop) (m : List (Option Addr)) (a : Addr) (ks vs : List Val) : Prop :=
  (∃ kvs : List (L2.Key × V), H a = some (.dK kvs) ∧ ks = kvs.map (fun p => kVal p.1) ∧ Reps T H U m vs (kvs.map (·.2))) ∨
  ∃ kvs : List (List L2.Key × V), H a = some (.dT kvs) ∧ ks = Val.non :: kvs.map (fun p => Val.tup (p.1.map kVal)) ∧ Reps T H U m vs (kvs.map (·.2))
theorem view_dct {h : PH} {v : Val} {x : V} {ks vs : List Val} (hr : HR T H U m h) (r : Rep T H U m v x) (d : view h v = .dct ks vs) : ∃ a, x = .ref a ∧ DRep T H U m a ks vs := by
  cases v with
  | ref l =>
    cases r with
    | ref hl e =>
      cases q : h[l]? with
      | none => simp [view, q] at d
      | some o =>
        rcases hr.obj l o q with ⟨_, e0⟩ | ⟨a, e1, ob⟩
        · subst e0; simp [view, q, dat] at d
        obtain rfl := e a e1
        cases o with
        | dct ks' vs' =>
          simp only [view, q] at d
          cases d
          exact ⟨a, rfl, ob⟩
        | _ => simp [view, q] at d
  | dct ks' vs' =>
    simp only [view] at d
    cases d
    cases r with
    | dK h1 h2 h3 h4 => exact ⟨_, rfl, .inl ⟨_, h1, h3, h4⟩⟩
    | dT h1 h2 h3 h4 => exact ⟨_, rfl, .inr ⟨_, h1, h3, h4⟩⟩
  | _ => simp [view] at d
theorem DRep.kd {a : Addr} {ks vs : List Val} (d : DRep T H U m a ks vs) (e : dKs ks = true) : ∃ kvs : List (L2.Key × V), H a = some (.dK kvs) ∧ ks = kvs.map (fun p => kVal p.1) ∧ Reps T H U m vs (kvs.map (·.2)) := by
  rcases d with d | ⟨kvs, _, e1, _⟩
  · exact d
  · subst e1; simp [dKs] at e
theorem DRep.td {a : Addr} {ks vs : List Val} (d : DRep T H U m a (.non :: ks) vs) : ∃ kvs : List (List L2.Key × V), H a = some (.dT kvs) ∧ ks = kvs.map (fun p => Val.tup (p.1.map kVal)) ∧ Reps T H U m vs (kvs.map (·.2)) := by
  rcases d with ⟨kvs, _, e1, _⟩ | ⟨kvs, h, e1, r⟩
  · cases kvs with
    | nil => cases e1
    | cons p r => rw [List.map_cons] at e1; exact absurd (List.cons.inj e1).1.symm (kVal_ne _)
  · exact ⟨kvs, h, (List.cons.inj e1).2, r⟩
theorem ER.hide {r : Ev} {σ : L2.St} (e : ER T H U m r σ) (i : Nat) (x : Option V) : ER T H U m (r.set i none) (σ.set i x) := by
  refine ⟨by simp [e.len], fun j w q' => ?_⟩
  by_cases hj : i = j
  · subst hj
    rw [List.getElem?_set] at q'
    by_cases hl : i < r.length
    · rw [if_pos rfl, if_pos hl] at q'; cases q'
    · rw [if_pos rfl, if_neg hl] at q'; cases q'
  · rw [List.getElem?_set_ne hj] at q' ⊢
    exact e.val j w q'
end

/-! ### {} -/
def eNewD (ks : List Val) : Ex := fun _ h => .ok (.ref h.length) (h ++ [.dct ks []])
section
variable {T : Tab} {X : Cx} {pos : Pos}
theorem newd_run {W : WC} {ks : List Val} {o : HO} (mu : Mut (some o)) (ho : ∀ H U m p, H p = some o → ObjAt T H U m p (.dct ks [])) {σ : L2.St} {H : Hp} {Q : VK} (q : tE T W (eNewD ks) σ H Q) : ∀ p, H p = none → Q (.ref p) (upd H p o) := by
  obtain ⟨U, m, r, h, hr, er, k⟩ := q
  intro p hp
  refine k _ _ _ (Gr.push o hp) (hr.push hp mu (ho _ _ _ _ upd_same)) (.ref p) (.ref (by rw [← hr.len]; simp) fun a e => ?_)
  rw [← hr.len, List.getElem?_append_right (Nat.le_refl _)] at e
  simp at e; rw [e]
theorem ce_newK : CE T X (.Dict [] [] pos) (eNewD []) := fun ok W tk => pe_imp pe_dnewK fun σ H Q q => newd_run (o := .dK []) True.intro (fun _ _ _ _ e => .inl ⟨[], e, rfl, .nil⟩) q
theorem ce_newT : CE T X (.Dict [] [] pos) (eNewD [.non]) := fun ok W tk => pe_imp pe_dnewT fun σ H Q q => newd_run (o := .dT []) True.intro (fun _ _ _ _ e => .inr ⟨[], e, rfl, .nil⟩) q
end

/-! ### d[k] -/
def gDGet (h : PH) (x y : Val) : Option Val := match view h x with
  | .dct ks vs => if dKs ks then (isKey y).bind fun _ => lkV y ks vs else none
  | _ => none
def eDGet (d i : Ex) : Ex := eBin gDGet d i
/-- the key a tuple that is displayed there -/
def gDGetT (h : PH) (x : Val) (ys : List Val) : Option Val := match view h x with
  | .dct (.non :: ks) vs => (isKeys ys).bind fun _ => lkV (.tup ys) ks vs
  | _ => none
def eDGetT (d : Ex) (ms : List Ex) : Ex := fun r h => (d r h).bind fun x h1 => (eArgs ms r h1).bind fun ys h2 => lift (gDGetT h2 x ys) h2
section
variable {T : Tab} {X : Cx} {o i : Expr} {es : List Expr} {pos tp : Pos} {md mi : Ex} {ms : List Ex}
theorem ce_dget (hd : CE T X o md) (hi : CE T X i mi) (hs : NoSl i := by exact fun _ _ => rfl) : CE T X (.Subscript o i pos) (eDGet md mi) := fun ok W tk =>
  pe_imp (pe_dget (by have := ok.un; omega) (hd ok W tk) (hi ok W tk) hs) fun σ H Q ⟨U, m, r, h, hr, er, q⟩ => by
    refine tE_then hr er q fun x H1 U1 m1 h1 xm g1 hr1 er1 rx q1 => ?_
    refine tE_then hr1 er1 q1 fun y H2 U2 m2 h2 ym g2 hr2 er2 ry q2 => ?_
    obtain ⟨z, ez⟩ := Out.lift_some q2
    have e := ez
    unfold gDGet at e
    split at e
    · rename_i ks vs ev
      split at e
      · rename_i hk
        cases ek : isKey ym with
        | none => rw [ek] at e; cases e
        | some k =>
          rw [ek] at e
          obtain ⟨a, rfl, d⟩ := view_dct hr2 (hr1.rep g2 rx) ev
          obtain ⟨kvs, e1, e2, e3⟩ := d.kd hk
          subst e2
          obtain rfl := isKey_eq ek
          obtain rfl := key_rep ry
          obtain ⟨v, e4, rv⟩ := lkV_some veq_k e3 (show lkV (kVal k) _ vs = some z from e)
          exact ⟨a, v, rfl, by rw [← e4]; exact DGet.k e1, Out.pure hr2 q2 (fun _ _ h => h) ez v rv⟩
      · cases e
    · cases e
theorem ce_dgetT {k : Nat} (hd : CE T X o md) (hi : CA T X es (eArgs ms)) (hl : ms.length ≤ 1000 := by decide) (hs : NoSl (.Tuple es k tp) := by exact fun _ _ => rfl) : CE T X (.Subscript o (.Tuple es k tp) pos) (eDGetT md ms) := fun ok W tk =>
  pe_imp (pe_dget (by have := ok.un; omega) (hd ok W tk) (pe_tup (hi ok W tk)) hs) fun σ H Q ⟨U, m, r, h, hr, er, q⟩ => by
    refine tE_then hr er q fun x H1 U1 m1 h1 xm g1 hr1 er1 rx q1 => ?_
    refine tA_then hr1 er1 q1 fun ys H2 U2 m2 h2 ysm el g2 hr2 er2 ry q2 => ⟨?_, fun p hp => ?_⟩
    · rw [← ry.length, eArgs_len el]
      exact big_line (Nat.le_trans hl (by decide))
    obtain ⟨z, ez⟩ := Out.lift_some q2
    have e := ez
    unfold gDGetT at e
    split at e
    · rename_i ks vs ev
      cases ek : isKeys ysm with
      | none => rw [ek] at e; cases e
      | some kk =>
        rw [ek] at e
        obtain ⟨a, rfl, d⟩ := view_dct hr2 (hr1.rep g2 rx) ev
        obtain ⟨kvs, e1, e2, e3⟩ := d.td
        subst e2
        obtain rfl := isKeys_eq ek
        obtain rfl := keys_rep ry
        obtain ⟨v, e4, rv⟩ := lkV_some veq_ks e3 (show lkV (.tup (kk.map kVal)) _ vs = some z from e)
        have ex : Ext H2 (upd H2 p (.tup (kk.map kV))) := ext_upd hp
        refine ⟨a, v, rfl, ?_, Out.pure hr2 q2 ex ez v (hr2.rep (Gr.of_ext ex) rv)⟩
        rw [← e4]
        exact DGet.t (by rw [upd_ne (ne_of_none e1 hp)]; exact e1) upd_same
    · cases e
end

/-! ### sorted of a dict with ints for keys -/
def allInts : List Val → Option (List Int)
  | [] => some []
  | .int i :: vs => (allInts vs).map fun r => i :: r
  | _ :: _ => none
theorem allInts_eq : ∀ {vs : List Val} {is : List Int}, allInts vs = some is → vs = is.map .int
  | [], is, e => by simp [allInts] at e; subst e; rfl
  | .int i :: vs, is, e => by
    simp only [allInts] at e
    cases q : allInts vs with
    | none => rw [q] at e; cases e
    | some r => rw [q] at e; cases e; rw [allInts_eq q]; rfl
  | .non :: _, _, e => by simp [allInts] at e
  | .bl _ :: _, _, e => by simp [allInts] at e
  | .str _ :: _, _, e => by simp [allInts] at e
  | .tup _ :: _, _, e => by simp [allInts] at e
  | .lst _ :: _, _, e => by simp [allInts] at e
  | .dct _ _ :: _, _, e => by simp [allInts] at e
  | .ins _ _ :: _, _, e => by simp [allInts] at e
  | .ref _ :: _, _, e => by simp [allInts] at e
def gSortedD (h : PH) : List Val → Option (List Val)
  | [x] => (match view h x with
    | .dct ks _ => if decide (ks.length < 64) then (allInts ks).map fun is => (is.mergeSort fun a b => decide (a ≤ b)).map .int else none
    | _ => none)
  | _ => none
theorem ksI : ∀ {kvs : List (L2.Key × V)} {is : List Int}, kvs.map (fun p => kVal p.1) = is.map .int → kvs.map (·.1) = is.map Sum.inl
  | [], [], _ => rfl
  | [], _ :: _, e => by simp at e
  | _ :: _, [], e => by simp at e
  | p :: kvs, i :: is, e => by
    rw [List.map_cons, List.map_cons] at e
    obtain ⟨e1, e2⟩ := List.cons.inj e
    rw [List.map_cons, List.map_cons, ksI e2]
    congr 1
    revert e1
    cases p.1 with
    | inl j => intro e1; simp only [kVal] at e1; injection e1 with e1; rw [e1]
    | inr x => intro e1; simp [kVal] at e1
theorem sorted_uniq {xs ys zs : List Int} (p : ys.Perm xs) (s : ys.Pairwise (· ≤ ·)) : ys = xs.mergeSort fun a b => decide (a ≤ b) := by
  refine List.Perm.eq_of_pairwise (le := fun a b : Int => a ≤ b) (fun a b _ _ h1 h2 => Int.le_antisymm h1 h2) s ?_ (p.trans (List.mergeSort_perm _ _).symm)
  have := List.pairwise_mergeSort (le := fun a b : Int => decide (a ≤ b)) (fun a b c h1 h2 => by simp only [decide_eq_true_eq] at *; omega) (fun a b => by simp only [Bool.or_eq_true, decide_eq_true_eq]; omega) xs
  exact this.imp fun h => of_decide_eq_true h
section
variable {T : Tab} {X : Cx}
theorem sortedD_S (ok : XOk T X) : CallN T X (.builtin "sorted") gSortedD := by
  intro pins s σ H U m h x xv v z I hr r rx e
  unfold gSortedD at e
  split at e
  · rename_i x0
    obtain ⟨y, rfl, r1⟩ := one_reps r
    split at e
    · rename_i ks vs ey
      split at e
      · rename_i hl
        cases ei : allInts ks with
        | none => rw [ei] at e; cases e
        | some is =>
          rw [ei] at e; cases e
          obtain rfl := allInts_eq ei
          obtain ⟨a, rfl, d⟩ := view_dct hr r1 ey
          obtain ⟨kvs, e1, e2, e3⟩ := d.kd (by cases is <;> rfl)
          have hl' : is.length < 64 := by simpa using hl
          refine (call_sortedDI ok.calm : CallR X _ _) pins s σ H _ v _ I rx ⟨a, kvs, is, rfl, .inl e1, ksI e2.symm, hl', fun ys p hp hs hpn => ?_⟩
          refine ⟨H, p, ys.map V.int, rfl, rfl, Ext.rfl', hpn, ?_, ?_⟩
          · show Reps T H U m ((is.mergeSort fun a b => decide (a ≤ b)).map Val.int) _
            rw [← sorted_uniq (zs := []) hp hs]; exact ints_rep ys
          · show ((is.mergeSort fun a b => decide (a ≤ b)).map Val.int).length ≤ sizeLine
            rw [List.length_map, List.length_mergeSort]; exact big_line (Nat.le_trans (Nat.le_of_lt hl') (by decide))
      · cases e
    · cases e
  · cases e
end
/-! ### key = (a, b); lot = d.get(key, {}); lot[c] = True; d[key] = lot -/
def refOf : Option (Option Val) → Option Nat
  | some (some (.ref l)) => some l
  | _ => none
def dctOf : Option Val → Option (List Val × List Val)
  | some (.dct ks vs) => some (ks, vs)
  | _ => none
/-- the end: lot[c] = True; d[key] = lot -/
def tallyEnd (kl lf ll : Nat) (ks : List Val) (c : Val) (r : Ev) : SM Fl := fun h => match dctOf h[ll]? with
  | some (ks2, vs2) => if dKs ks2 && decide (ks2.length < 4000) && (isKey c).isSome && decide (ll ≠ lf) then
      (let p := putV c (.bl true) ks2 vs2
       let h' := h.set ll (.dct p.1 p.2)
       match dctOf h'[lf]? with
       | some (.non :: ks3, vs3) => if decide (ks3.length < 4000) then (let q := putV (.tup ks) (.ref ll) ks3 vs3; .ok (.nx r) (h'.set lf (.dct (.non :: q.1) q.2))) else .stuck
       | _ => .stuck)
    else .stuck
  | none => .stuck
def tallyA (ik il df : Nat) (mc : Ex) (r : Ev) (ks : List Val) (h1 : PH) : Res Fl := match refOf r[df]?, isKeys ks with
      | some lf, some _ => (match dctOf h1[lf]? with
        | some (.non :: ks1, vs1) => (match lkV (.tup ks) ks1 vs1 with
          | some (.ref ll) => if (dctOf h1[ll]?).isSome then (mc ((r.set ik none).set il (some (.ref ll))) h1).bind fun c h2 => tallyEnd ik lf ll ks c ((r.set ik none).set il none) h2 else .stuck
          | some _ => .stuck
          | none => (mc ((r.set ik none).set il (some (.ref h1.length))) (h1 ++ [.dct [] []])).bind fun c h2 => tallyEnd ik lf h1.length ks c ((r.set ik none).set il none) h2)
        | _ => .stuck)
      | _, _ => .stuck
def sTally (ik il df : Nat) (ms : List Ex) (mc : Ex) : Stm := fun r h => if decide (ik < r.length) && decide (il < r.length) && decide (ik ≠ il) && decide (df ≠ ik) && decide (df ≠ il) then
    (eArgs ms r h).bind fun ks h1 => tallyA ik il df mc r ks h1
  else .stuck
section
variable {T : Tab} {H : Hp} {U : Addr → Prop} {m : List (Option Addr)} {h : PH}
theorem dctOf_eq {o : Option Val} {p : List Val × List Val} (e : dctOf o = some p) : o = some (.dct p.1 p.2) := by
  unfold dctOf at e; split at e
  · cases e; rfl
  · cases e
theorem refOf_eq {o : Option (Option Val)} {l : Nat} (e : refOf o = some l) : o = some (some (.ref l)) := by
  unfold refOf at e; split at e
  · cases e; rfl
  · cases e
theorem obj_dct (hr : HR T H U m h) {l : Nat} {ks vs : List Val} (e : h[l]? = some (.dct ks vs)) : ∃ a, m[l]? = some (some a) ∧ DRep T H U m a ks vs := by
  rcases hr.obj l _ e with ⟨_, e0⟩ | ⟨a, e1, ob⟩
  · cases e0
  · exact ⟨a, e1, ob⟩
/-- lot[c] = True; d[key] = lot -/
theorem tally_end {W : WC} {D : Ends} {σ : L2.St} {r : Ev} {ik lf ll : Nat} {b fa la : Addr} {kk : List L2.Key} {c : Val} {cv : V} (hr : HR T H U m h) (er : ER T H U m r σ) (hb : H b = some (.tup (kk.map kV))) (hf : m[lf]? = some (some fa)) (hl : m[ll]? = some (some la)) (rc : Rep T H U m c cv)
    (o : Out T H U m W (tallyEnd ik lf ll (kk.map kVal) c r h) fun f _ H' U' m' => KF T D f H' U' m') :
    ∃ H4, DPut H la cv (.bl true) H4 ∧ ∃ H5, DPut H4 fa (.ref b) (.ref la) H5 ∧ D.nx σ H5 := by
  unfold tallyEnd at o
  split at o
  case h_2 => exact (show False from o).elim
  rename_i ks2 vs2 e2
  split at o
  case isFalse => exact (show False from o).elim
  rename_i hc
  simp only [Bool.and_eq_true, decide_eq_true_eq] at hc
  obtain ⟨⟨⟨c1, c2⟩, c3⟩, c4⟩ := hc
  obtain ⟨k, ek⟩ := Option.isSome_iff_exists.mp c3
  obtain rfl := isKey_eq ek
  obtain rfl := key_rep rc
  obtain ⟨a2, ea2, d2⟩ := obj_dct hr (dctOf_eq e2)
  rw [hl] at ea2; cases ea2
  obtain ⟨kv2, h2, k2, r2⟩ := d2.kd c1
  subst k2
  have z2 : kv2.length < sizeLine := Nat.lt_of_lt_of_le (by simpa using c2) (big_line (by decide))
  obtain ⟨p1, p2⟩ := putV_ok veq_k (k := k) r2 (Rep.bl (T := T) (H := H) (U := U) (m := m) true)
  have g4 : Gr H U m (upd H la (.dK (putK kv2 k (.bl true)))) U m := Gr.write ⟨ll, hl⟩
  have hr4 := hr.write (o := .dK (putK kv2 k (.bl true))) (v := .dct (putV (kVal k) (.bl true) (kv2.map fun p => kVal p.1) vs2).1 (putV (kVal k) (.bl true) (kv2.map fun p => kVal p.1) vs2).2) hl (.inl ⟨_, upd_same, p1, hr.reps g4 p2⟩)
  refine ⟨_, DPut.k h2 z2, ?_⟩
  simp only [] at o
  split at o
  case h_2 => exact (show False from o).elim
  rename_i ks3 vs3 e3
  split at o
  case isFalse => exact (show False from o).elim
  rename_i c5
  obtain ⟨a3, ea3, d3⟩ := obj_dct hr4 (dctOf_eq e3)
  rw [hf] at ea3; cases ea3
  obtain ⟨kv3, h3, k3, r3⟩ := d3.td
  subst k3
  have z3 : kv3.length < sizeLine := Nat.lt_of_lt_of_le (by simpa using c5) (big_line (by decide))
  have rl : Rep T (upd H la (.dK (putK kv2 k (.bl true)))) U m (.ref ll) (.ref la) := .ref (List.getElem?_eq_some_iff.mp hl).1 fun a e => by rw [hl] at e; cases e; rfl
  obtain ⟨q1, q2⟩ := putV_ok veq_ks (k := kk) r3 rl
  have g5 : Gr (upd H la (.dK (putK kv2 k (.bl true)))) U m (upd (upd H la (.dK (putK kv2 k (.bl true)))) fa (.dT (putK kv3 kk (.ref la)))) U m := Gr.write ⟨lf, hf⟩
  have hr5 := hr4.write (o := .dT (putK kv3 kk (.ref la))) (v := .dct (.non :: (putV (.tup (kk.map kVal)) (.ref ll) (kv3.map fun p => Val.tup (p.1.map kVal)) vs3).1) (putV (.tup (kk.map kVal)) (.ref ll) (kv3.map fun p => Val.tup (p.1.map kVal)) vs3).2) hf (.inr ⟨_, upd_same, by rw [q1], hr4.reps g5 q2⟩)
  have hb4 : upd H la (.dK (putK kv2 k (.bl true))) b = some (.tup (kk.map kV)) := by
    rw [upd_ne (ne_of hb h2 (fun z => nomatch z))]; exact hb
  exact ⟨_, DPut.t h3 hb4 z3, o _ U m (g4.trans g5) hr5 σ (hr4.env g5 (hr.env g4 er))⟩
end
section
variable {T : Tab} {X : Cx} {es : List Expr} {ec : Expr} {ms : List Ex} {mc : Ex} {sk sl sd : Str} {j : Nat}
theorem css_tally (ik il df : Nat) {tp p1 p2 p3 p4 p5 p6 p7 p8 p9 pa pb pc q1 q2 q3 q4 q5 q6 : Pos} {jk} (ha : CA T X es (eArgs ms)) (hl : ms.length ≤ 1000 := by decide) (hc : CE T X ec mc)
    (hk : X.N[ik]? = some sk := by rfl) (hl2 : X.N[il]? = some sl := by rfl) (hd : X.N[df]? = some sd := by rfl)
    (vk : Vis X.env.scope sk := by first | exact Or.inl rfl | exact Or.inr (Or.inl rfl) | exact Or.inr (Or.inr rfl)) (vl : Vis X.env.scope sl := by first | exact Or.inl rfl | exact Or.inr (Or.inl rfl) | exact Or.inr (Or.inr rfl)) (vd : Vis X.env.scope sd := by first | exact Or.inl rfl | exact Or.inr (Or.inl rfl) | exact Or.inr (Or.inr rfl))
    (dk : (sk == ("__debug__" : Str)) = false := by decide) (ck : (sk == ("__classdict__" : Str)) = false := by decide) (dl : (sl == ("__debug__" : Str)) = false := by decide) (cl : (sl == ("__classdict__" : Str)) = false := by decide) (dd : (sd == ("__debug__" : Str)) = false := by decide) (cd : (sd == ("__classdict__" : Str)) = false := by decide)
    (lk : Loc X.env.scope sk := by first | exact Or.inl rfl | exact Or.inr rfl) (fk : X.fn sk = true ∨ X.env.scope.names.lookup sk = some .local := by first | exact .inl rfl | exact .inr rfl) (ll : Loc X.env.scope sl := by first | exact Or.inl rfl | exact Or.inr rfl) (fl : X.fn sl = true ∨ X.env.scope.names.lookup sl = some .local := by first | exact .inl rfl | exact .inr rfl)
    (s1 : swapsWith (.Tuple es j tp) (some (.Name sk p1)) q1.line X.env = pure false := by rfl) (s2 : swapsWith (.Call (.Attribute (.Name sd p2) "get" p3) [.Name sk p4, .Dict [] [] p5] [] p6) (some (.Name sl p7)) q2.line X.env = pure false := by rfl)
    (mm : M2 X (.Name sd p2) "get" p3 (.Name sk p4) (.Dict [] [] p5) p6 := by exact ⟨rfl, rfl, rfl, rfl⟩)
    (s3 : swapsWith (.Constant (.bool true) jk p8) (some (.Subscript (.Name sl p9) ec q5)) q3.line X.env = pure false := by rfl) (s4 : swapsWith (.Name sl pc) (some (.Subscript (.Name sd pa) (.Name sk pb) q6)) q4.line X.env = pure false := by rfl) :
    CSs T X [.Assign [.Name sk p1] (.Tuple es j tp) q1, .Assign [.Name sl p7] (.Call (.Attribute (.Name sd p2) "get" p3) [.Name sk p4, .Dict [] [] p5] [] p6) q2, .Assign [.Subscript (.Name sl p9) ec q5] (.Constant (.bool true) jk p8) q3, .Assign [.Subscript (.Name sd pa) (.Name sk pb) q6] (.Name sl pc) q4] (sTally ik il df ms mc) := fun ok po W tk => by
  have hu : X.A.units + 1 < cLine := by have := ok.un; omega
  refine pss_imp (pss_cons (ps_set ok.nd hk lk (pe_tup (ha ok W tk)) s1 fk) (pss_cons (ps_set ok.nd hl2 ll (pe_dget2 hu (pe_var hd vd dd cd) (pe_var hk vk dk ck) pe_dnewK mm) s2 fl)
    (pss_cons (ps_dput hu (pe_var hl2 vl dl cl) (hc ok W tk) pe_bl s3) (pss_one (ps_dput hu (pe_var hd vd dd cd) (pe_var hk vk dk ck) (pe_var hl2 vl dl cl) s4))))) fun D σ H ⟨U, m, r, h, hr, er, o⟩ => ?_
  unfold sTally at o
  split at o
  case isFalse => exact (show False from o).elim
  rename_i hcond
  simp only [Bool.and_eq_true, decide_eq_true_eq] at hcond
  obtain ⟨⟨⟨⟨i1, i2⟩, i3⟩, i4⟩, i5⟩ := hcond
  refine tA_then hr er o fun xs H1 U1 m1 h1 vs el g1 hr1 er1 rx o1 => ⟨?_, fun b hbn => ?_⟩
  · rw [← rx.length, eArgs_len el]
    exact big_line (Nat.le_trans hl (by decide))
  unfold tallyA at o1
  split at o1
  case h_2 => exact (show False from o1).elim
  rename_i lf kk elf ekk
  obtain rfl := isKeys_eq ekk
  obtain rfl := keys_rep rx
  split at o1
  case h_2 => exact (show False from o1).elim
  rename_i ks1 vs1 e1
  obtain ⟨fa, hfa, dr⟩ := obj_dct hr1 (dctOf_eq e1)
  have ex : Ext H1 (upd H1 b (.tup (kk.map kV))) := ext_upd hbn
  have gx := Gr.of_ext (U := U1) (m := m1) ex
  have hr2 := hr1.ext ex
  obtain ⟨kvs, hkv, ekv, rkv⟩ := dr.td
  have hkv2 : upd H1 b (.tup (kk.map kV)) fa = some (.dT kvs) := by rw [upd_ne (ne_of_none hkv hbn)]; exact hkv
  have rkv2 := hr1.reps gx rkv
  have er2 : ER T (upd H1 b (.tup (kk.map kV))) U1 m1 r σ := hr1.env gx er1
  have hls := er.len
  obtain ⟨xf, exf, rxf⟩ := er2.val df _ (refOf_eq elf)
  obtain rfl : xf = .ref fa := by
    cases rxf with
    | ref _ e => exact e fa hfa
  have kset : (σ.set ik (some (.ref b)))[ik]? = some (some (.ref b)) := by rw [List.getElem?_set]; simp [show ik < σ.length by omega]
  refine ⟨.ref fa, by rw [List.getElem?_set_ne (fun z => i4 z.symm)]; exact exf, fa, rfl, .inr ⟨kvs, .inl hkv2⟩, .ref b, kset, fun p hpn => ?_⟩
  have hpf : p ≠ fa := fun z => by rw [z, hkv2] at hpn; cases hpn
  have hpb : p ≠ b := fun z => by rw [z, upd_same] at hpn; cases hpn
  have hb3 : upd (upd H1 b (.tup (kk.map kV))) p (.dK []) b = some (.tup (kk.map kV)) := by rw [upd_ne (fun z => hpb z.symm)]; exact upd_same
  have hkv3 : upd (upd H1 b (.tup (kk.map kV))) p (.dK []) fa = some (.dT kvs) := by rw [upd_ne (fun z => hpf z.symm)]; exact hkv2
  have ex3 : Ext (upd H1 b (.tup (kk.map kV))) (upd (upd H1 b (.tup (kk.map kV))) p (.dK [])) := ext_upd hpn
  refine ⟨valV kvs kk, DGet.t hkv3 hb3, ?_⟩
  subst ekv
  -- the end, once the lot is known
  have fin : ∀ {U3 : Addr → Prop} {m3 : List (Option Addr)} {h3 : PH} {l2 : Nat} {la : Addr}, HR T (upd (upd H1 b (.tup (kk.map kV))) p (.dK [])) U3 m3 h3 → ER T (upd (upd H1 b (.tup (kk.map kV))) p (.dK [])) U3 m3 ((r.set ik none).set il (some (.ref l2))) ((σ.set ik (some (.ref b))).set il (some (.ref la))) →
      m3[lf]? = some (some fa) → m3[l2]? = some (some la) → (¬ Lv m3 b) →
      Out T (upd (upd H1 b (.tup (kk.map kV))) p (.dK [])) U3 m3 W ((mc ((r.set ik none).set il (some (.ref l2))) h3).bind fun c h2 => tallyEnd ik lf l2 (kk.map kVal) c ((r.set ik none).set il none) h2) (fun f _ H' U' m' => KF T D f H' U' m') →
      tC (.bl true) ((σ.set ik (some (.ref b))).set il (some (.ref la))) (upd (upd H1 b (.tup (kk.map kV))) p (.dK [])) fun v H1' => tVar il ((σ.set ik (some (.ref b))).set il (some (.ref la))) H1' fun x H2' => tE T W mc ((σ.set ik (some (.ref b))).set il (some (.ref la))) H2' fun y H3' => ∃ a H4, x = .ref a ∧ DPut H3' a y v H4 ∧
        (tVar il ((σ.set ik (some (.ref b))).set il (some (.ref la))) H4 fun v H1' => tVar df ((σ.set ik (some (.ref b))).set il (some (.ref la))) H1' fun x H2' => tVar ik ((σ.set ik (some (.ref b))).set il (some (.ref la))) H2' fun y H3' => ∃ a H4, x = .ref a ∧ DPut H3' a y v H4 ∧ D.nx ((σ.set ik (some (.ref b))).set il (some (.ref la))) H4) := by
    intro U3 m3 h3 l2 la hr3 er3 mf ml hlb oo
    have lset : ((σ.set ik (some (.ref b))).set il (some (.ref la)))[il]? = some (some (.ref la)) := by rw [List.getElem?_set]; simp [show il < σ.length by omega]
    refine ⟨.ref la, lset, ?_⟩
    refine tE_then hr3 er3 oo fun cv H5 U5 m5 h5 c g5 hr5 er5 rc o5 => ?_
    have old : ∀ {l : Nat} {a : Addr}, m3[l]? = some (some a) → (∃ u, h5[l]? = some u ∧ u ≠ .non) → m5[l]? = some (some a) := by
      intro l a e ⟨u, eu, hu⟩
      rcases hr5.obj l u eu with ⟨_, e0⟩ | ⟨a', e', _⟩
      · exact absurd e0 hu
      · have hl3 : l < m3.length := (List.getElem?_eq_some_iff.mp e).1
        have := g5.ext.old l a' hl3 e'
        rw [e] at this; cases this; exact e'
    have hb5 : H5 b = some (.tup (kk.map kV)) := g5.keep b _ hlb hb3
    have o6 := o5
    unfold tallyEnd at o6
    split at o6
    case h_2 => exact (show False from o6).elim
    rename_i ks2 vs2 e2
    have ml5 := old ml ⟨_, dctOf_eq e2, fun z => nomatch z⟩
    split at o6
    case isFalse => exact (show False from o6).elim
    rename_i hc6
    simp only [Bool.and_eq_true, decide_eq_true_eq] at hc6
    simp only [] at o6
    split at o6
    case h_2 => exact (show False from o6).elim
    rename_i ks3 vs3 e3
    have e3' := dctOf_eq e3
    rw [List.getElem?_set_ne hc6.2] at e3'
    have mf5 := old mf ⟨_, e3', fun z => nomatch z⟩
    have er5' : ER T H5 U5 m5 ((r.set ik none).set il none) ((σ.set ik (some (.ref b))).set il (some (.ref la))) := by
      have := er5.drop1 il
      rwa [List.set_set] at this
    obtain ⟨H6, d6, H7, d7, q7⟩ := tally_end hr5 er5' hb5 mf5 ml5 rc o5
    have kset2 : ((σ.set ik (some (.ref b))).set il (some (.ref la)))[ik]? = some (some (.ref b)) := by rw [List.getElem?_set_ne (fun z => i3 z.symm)]; exact kset
    have dset2 : ((σ.set ik (some (.ref b))).set il (some (.ref la)))[df]? = some (some (.ref fa)) := by rw [List.getElem?_set_ne (fun z => i5 z.symm), List.getElem?_set_ne (fun z => i4 z.symm)]; exact exf
    exact ⟨la, H6, rfl, d6, .ref la, lset, .ref fa, dset2, .ref b, kset2, fa, H7, rfl, d7, q7⟩
  have hb1 : ¬ Lv m1 b := hr1.notlv hbn
  split at o1
  · rename_i l2 elk
    obtain ⟨x2, ex2, rx2⟩ := lkV_some veq_ks rkv2 elk
    rw [ex2]
    have hr3 := hr2.ext ex3
    have g3 := Gr.of_ext (U := U1) (m := m1) ex3
    split at o1
    case isFalse => exact (show False from o1).elim
    rename_i hal
    obtain ⟨pp, epp⟩ := Option.isSome_iff_exists.mp hal
    obtain ⟨la, ml, _⟩ := obj_dct hr1 (dctOf_eq epp)
    obtain rfl : x2 = .ref la := by
      cases rx2 with
      | ref _ e => exact e la ml
    refine fin hr3 ?_ hfa ml hb1 (Out.step hr1 hr3 (gx.trans g3) o1)
    refine ((hr2.env g3 er2).hide ik _).set (.ref (List.getElem?_eq_some_iff.mp ml).1 fun a e => by rw [ml] at e; cases e; rfl)
  · exact (show False from o1).elim
  · rename_i elk
    rw [lkV_none veq_ks rkv2 elk]
    have g3 : Gr (upd H1 b (.tup (kk.map kV))) U1 m1 (upd (upd H1 b (.tup (kk.map kV))) p (.dK [])) (addU U1 p) (m1 ++ [some p]) := Gr.push _ hpn
    have hr3 : HR T (upd (upd H1 b (.tup (kk.map kV))) p (.dK [])) (addU U1 p) (m1 ++ [some p]) (h1 ++ [.dct [] []]) := hr2.push hpn True.intro (.inl ⟨[], upd_same, rfl, .nil⟩)
    have ml : (m1 ++ [some p])[h1.length]? = some (some p) := by rw [← hr1.len, List.getElem?_append_right (Nat.le_refl _)]; simp
    have mf : (m1 ++ [some p])[lf]? = some (some fa) := by rw [List.getElem?_append_left (List.getElem?_eq_some_iff.mp hfa).1]; exact hfa
    refine fin hr3 ?_ mf ml (fun z => (lv_app z).elim hb1 fun e => hpb e.symm) ?_
    · exact ((hr2.env g3 er2).hide ik _).set (.ref (by rw [← hr1.len]; simp) fun a e => by rw [ml] at e; cases e; rfl)
    · exact Out.step hr1 hr3 (gx.trans g3) o1
end
end SW

namespace SW
open PySem PySem.Spec PyProof.Rows L2

/-! ### t.index(x) of a tuple made on the way -/
def eIdxT (o e : Ex) : Ex := fun r h => (o r h).bind fun x h1 => match x with
  | .tup vs => (e r h1).bind fun y h2 => lift (gIndexC vs h2 y) h2
  | _ => .stuck
def rIdxD (T : Tab) : V → List V → Hp → VK → Prop := fun x xs H Q => ∃ vs, rIdxC T vs x xs H Q
section
variable {T : Tab} {X : Cx} {o e : Expr} {mo me : Ex} {apos cpos : Pos}
theorem mt_idxD (ok : XOk T X) : MtR X "tuple.index" (rIdxD T) := fun pins s σ H x xs v us Q I rx rs ⟨vs, h⟩ => mt_idxC ok vs pins s σ H x xs v us Q I rx rs h
theorem ce_idxT (ho : CE T X o mo) (he : CE T X e me)
    (hbase : attributeBase o "index" X.env (eval o X.env) = eval o X.env := by rfl)
    (hfew : ((backTo cpos (starEach [e] X.env)).all (fun x => !x.1) && (backToKw cpos (keywordEach [] X.env)).all (fun x => x.1.isSome)
      && decide ([e].length + ([] : List Keyword).length + (if ([] : List Keyword).isEmpty then 0 else 1) < 30)) = true := by rfl)
    (hline : (apos.endLine == cpos.line) = true := by rfl) (hs : starEach [e] X.env = (false, eval e X.env) :: starEach [] X.env := by rfl) (hplain : (backTo cpos (starEach [] X.env)).any (·.1) = false := by rfl) :
    CE T X (.Call (.Attribute o "index" apos) [e] [] cpos) (eIdxT mo me) := fun ok W tk =>
  pe_imp (pe_bmB PySem.F.plainAttrs_tuple PySem.F.slot_tuple_index PySem.F.type_tuple_index (mt_idxD ok) (ho ok W tk) (pa_cons (he ok W tk) pa_nil hs) hbase hfew hline hs hplain) fun σ H Q ⟨U, m, r, h, hr, er, oo⟩ => by
    refine tE_then hr er oo fun x H1 U1 m1 h1 v g1 hr1 er1 rx o1 => ?_
    cases v with
    | tup vs =>
      cases rx with
      | tup z0 z1 z2 =>
        refine ⟨⟨_, _, rfl, by rw [ok.k]; exact z1⟩, ?_⟩
        refine tE_then hr1 er1 o1 fun y H2 U2 m2 h2 w g2 hr2 er2 ry o2 => ?_
        obtain ⟨z, ez⟩ := Out.lift_some o2
        have e0 := ez
        unfold gIndexC at ez
        split at ez
        · rename_i hc
          rw [Bool.and_eq_true] at hc
          cases ej : idxB (fun z => veq z (view h2 w)) vs with
          | none => rw [ej] at ez; cases ez
          | some j =>
            rw [ej] at ez; cases ez
            cases hr1.rep g2 (.tup z0 z1 z2) with
            | tup y0 y1 y2 => exact ⟨vs, U2, m2, h2, _, _, w, y, j, rfl, rfl, hr2, y2, y1.t, ry, hc.1, hc.2, ej, Out.pure hr2 o2 Ext.rfl' e0 _ (.int _)⟩
        · cases ez
    | _ => exact (show False from o1).elim
end

/-! ### xs.index(x) of a list -/
def rIdxL (T : Tab) : V → List V → Hp → VK → Prop := fun x xs H Q => ∃ vs U m h a ys y yv j, x = .ref a ∧ xs = [yv] ∧ HR T H U m h ∧ Reps T H U m vs ys ∧ SqL T.K H a ys ∧ Rep T H U m y yv ∧ dats vs 60 = true ∧ dat (view h y) 60 = true ∧
  idxB (fun z => veq z (view h y)) vs = some j ∧ Q (.int (j : Nat)) H
theorem mt_idxL {T : Tab} {X : Cx} (ok : XOk T X) : MtR X "list.index" (rIdxL T) := fun pins s σ H x xs v us Q I rx rs ⟨vs, U, m, hh, a, ys, y, yv, j, e1, e2, hr, rys, hq, ry, d1, d2, ej, q⟩ => by
  subst e1 e2
  cases rx
  obtain ⟨u, rfl, ru⟩ := vals1 rs
  obtain ⟨its, r, ⟨⟨cls, dd, dt, sl⟩, n, ho, hc, hdn, hd⟩, hz⟩ := I.list (by rw [ok.k]; exact hq)
  simp only at hc hd
  subst hc hd
  obtain ⟨bs, q2⟩ := reads_of ok.k I hr ry ru d2
  have p2 := dat_plain _ _ d2
  have hl : its.toArray.size = vs.length := by rw [List.size_toArray, ← r.length, rys.length]
  obtain ⟨⟨w, ew, hw⟩, hno⟩ := idxB_spec ej
  have hj : j < its.toArray.size := by rw [hl]; exact (List.getElem?_eq_some_iff.mp ew).1
  have hu := ok.un
  have hsl := sizeLine_eq
  have small : (j : Int) < 2 ^ 63 - 1 := by
    have h1 : its.toArray.size = its.length := by simp
    have h2 := r.length
    omega
  have at_ : ∀ (k : Nat) (hk : k < its.toArray.size), ∃ z, vs[k]? = some z ∧ SeqAt.EqAt X.A.in1 s its.toArray[k] u (veq z (view hh y)) := fun k hk => by
    have hk' : k < vs.length := by rw [← hl]; exact hk
    obtain ⟨yk, e1, rk⟩ := rys.get (i := k) (List.getElem?_eq_getElem hk')
    obtain ⟨ik, e2, rik⟩ := r.get e1
    have dk := dats_get d1 (List.getElem?_eq_getElem hk')
    refine ⟨vs[k], List.getElem?_eq_getElem hk', ?_⟩
    have ei : its.toArray[k] = ik := by simpa using (List.getElem?_eq_some_iff.mp e2).2
    rw [ei]
    obtain ⟨as, q1⟩ := Dp.reads I _ _ _ (by rw [ok.k]; exact Rep.dp _ _ _ dk rk) rik
    have p1 := dat_plain _ _ dk
    rw [← veq_ok _ _ _ _ dk d2]
    refine PySem.SeqAt.eqAt_plain _ _ _ _ _ _ _ _ q1 q2 p1.1 p2.1 ?_
    have hd' : min (toD vs[k]).depth (toD (view hh y)).depth ≤ 60 := min_dep p1.2
    show X.A.units + 1 + _ < cLine
    omega
  refine call_meets PySem.F.slot_list_index ⟨_, ho, rfl⟩ PySem.F.entry_list_index (PySem.F.args_list_index_2 _ _)
    (PySem.SeqAt.list_index2_found a its.toArray n dd sl u (fun k => match vs[k]? with | some z => veq z (view hh y) | none => false) j hj (Nat.zero_le _) small ?_ ?_) ⟨ho, fun k hk => ?_, ⟨.int (j : Nat), H, I.tok _, ⟨_, rfl⟩, q⟩⟩
  · rw [ew]; exact hw
  · intro k hk _ hkj
    rw [List.getElem?_eq_getElem (show k < vs.length by rw [← hl]; exact hk)]
    exact hno k _ hkj (List.getElem?_eq_getElem _)
  · obtain ⟨z, ez, hz'⟩ := at_ k hk
    rw [ez]; exact hz'
def eIdxL (o e : Ex) : Ex := fun r h => (o r h).bind fun x h1 => match view h1 x with
  | .lst _ => (e r h1).bind fun y h2 => match view h2 x with
    | .lst vs => lift (gIndexC vs h2 y) h2
    | _ => .stuck
  | _ => .stuck
section
variable {T : Tab} {X : Cx} {o e : Expr} {mo me : Ex} {apos cpos : Pos}
theorem ce_idxL (ho : CE T X o mo) (he : CE T X e me)
    (hbase : attributeBase o "index" X.env (eval o X.env) = eval o X.env := by rfl)
    (hfew : ((backTo cpos (starEach [e] X.env)).all (fun x => !x.1) && (backToKw cpos (keywordEach [] X.env)).all (fun x => x.1.isSome)
      && decide ([e].length + ([] : List Keyword).length + (if ([] : List Keyword).isEmpty then 0 else 1) < 30)) = true := by rfl)
    (hline : (apos.endLine == cpos.line) = true := by rfl) (hs : starEach [e] X.env = (false, eval e X.env) :: starEach [] X.env := by rfl) (hplain : (backTo cpos (starEach [] X.env)).any (·.1) = false := by rfl) :
    CE T X (.Call (.Attribute o "index" apos) [e] [] cpos) (eIdxL mo me) := fun ok W tk =>
  pe_imp (pe_bm PySem.F.plainAttrs_list PySem.F.slot_list_index PySem.F.type_list_index (mt_idxL ok) (ho ok W tk) (pa_cons (he ok W tk) pa_nil hs) hbase hfew hline hs hplain) fun σ H Q ⟨U, m, r, h, hr, er, oo⟩ => by
    refine tE_then hr er oo fun x H1 U1 m1 h1 v g1 hr1 er1 rx o1 => ?_
    split at o1
    · rename_i vs0 e0
      obtain ⟨a, ys0, rfl, s0, _, _⟩ := view_lst hr1 rx e0
      refine ⟨.inl ⟨rfl, _, .of s0⟩, ?_⟩
      refine tE_then hr1 er1 o1 fun y H2 U2 m2 h2 w g2 hr2 er2 ry o2 => ?_
      split at o2
      · rename_i vs e1
        obtain ⟨z, ez⟩ := Out.lift_some o2
        have e9 := ez
        unfold gIndexC at ez
        split at ez
        · rename_i hc
          rw [Bool.and_eq_true] at hc
          cases ej : idxB (fun z => veq z (view h2 w)) vs with
          | none => rw [ej] at ez; cases ez
          | some j =>
            rw [ej] at ez; cases ez
            obtain ⟨a2, ys, ea, s1, q, hz⟩ := view_lst hr2 (hr1.rep g2 rx) e1
            cases ea
            exact ⟨vs, U2, m2, h2, a, ys, w, y, j, rfl, rfl, hr2, q, .of s1, ry, hc.1, hc.2, ej, Out.pure hr2 o2 Ext.rfl' e9 _ (.int _)⟩
        · cases ez
      · exact (show False from o2).elim
    · exact (show False from o1).elim
end
end SW

namespace SW
open PySem PySem.Spec PyProof.Rows L2

/-! ### k in d -/
def gDIn (neg : Bool) (h : PH) (y x : Val) : Option Val := match view h x with
  | .dct ks vs => if dKs ks then (isKey y).map fun _ => .bl ((lkV y ks vs).isSome != neg) else none
  | _ => none
section
variable {T : Tab} {X : Cx} {o i : Expr} {pos : Pos} {md mi : Ex}
theorem lk_some {H : Hp} {U : Addr → Prop} {m : List (Option Addr)} {κ : Type} [DecidableEq κ] {f : κ → Val} (hf : ∀ a b, veq (f a) (f b) = decide (a = b)) {k : κ} {kvs : List (κ × V)} {vs : List Val} (r : Reps T H U m vs (kvs.map (·.2))) : (lkV (f k) (kvs.map fun p => f p.1) vs).isSome = (valV kvs k).isSome := by
  cases e : lkV (f k) (kvs.map fun p => f p.1) vs with
  | none => rw [lkV_none hf r e]; rfl
  | some v =>
    obtain ⟨x, e1, _⟩ := lkV_some hf r e
    rw [e1]; rfl
theorem din_run {neg : Bool} {W : WC} {σ : L2.St} {H : Hp} {Q : VK} (q : tE T W (eBin (gDIn neg) mi md) σ H Q) : tE T W mi σ H fun y H1 => tE T W md σ H1 fun x H2 => ∃ a o, x = .ref a ∧ DGet H2 a y o ∧ Q (.bl (o.isSome != neg)) H2 := by
  obtain ⟨U, m, r, h, hr, er, q⟩ := q
  refine tE_then hr er q fun y H1 U1 m1 h1 ym g1 hr1 er1 ry q1 => ?_
  refine tE_then hr1 er1 q1 fun x H2 U2 m2 h2 xm g2 hr2 er2 rx q2 => ?_
  obtain ⟨z, ez⟩ := Out.lift_some q2
  have e := ez
  unfold gDIn at e
  split at e
  · rename_i ks vs ev
    split at e
    · rename_i hk
      cases ek : isKey ym with
      | none => rw [ek] at e; cases e
      | some k =>
        rw [ek] at e
        obtain ⟨a, rfl, d⟩ := view_dct hr2 rx ev
        obtain ⟨kvs, e1, e2, e3⟩ := d.kd hk
        subst e2
        obtain rfl := isKey_eq ek
        obtain rfl := key_rep (hr1.rep g2 ry)
        cases e
        refine ⟨a, _, rfl, DGet.k e1, ?_⟩
        rw [← lk_some veq_k e3]
        exact Out.pure hr2 q2 (fun _ _ h => h) ez _ (.bl _)
    · cases e
  · cases e
theorem ce_din (hi : CE T X i mi) (hd : CE T X o md) (hm : behindInMarks .In o = false := by first | exact nomark _ | rfl | decide) : CE T X (.Compare i [.In] [o] pos) (eBin (gDIn false) mi md) := fun ok W tk =>
  pe_imp (pe_cmp (pc_din (by have := ok.un; omega) (hi ok W tk) (hd ok W tk)) hm) fun σ H Q q => by
    have := din_run q
    simp only [Bool.bne_false] at this
    exact this
theorem ce_dnin (hi : CE T X i mi) (hd : CE T X o md) (hm : behindInMarks .NotIn o = false := by first | exact nomark _ | rfl | decide) : CE T X (.Compare i [.NotIn] [o] pos) (eBin (gDIn true) mi md) := fun ok W tk =>
  pe_imp (pe_cmp (pc_dnotin (by have := ok.un; omega) (hi ok W tk) (hd ok W tk)) hm) fun σ H Q q => by
    have := din_run q
    simp only [Bool.bne_true] at this
    exact this
theorem isB_din {neg : Bool} : IsB (gDIn neg) := by
  intro h x y z e
  unfold gDIn at e
  split at e
  · split at e
    · cases ek : isKey x with
      | none => rw [ek] at e; cases e
      | some k => rw [ek] at e; cases e; exact ⟨_, rfl⟩
    · cases e
  · cases e
theorem tB_of {me : Ex} (hB : ∀ r h v h1, me r h = .ok v h1 → ∃ c, v = .bl c) {W : WC} {σ : L2.St} {H : Hp} {Q : Bool → Hp → Prop} (q : tT T W me σ H Q) : tE T W me σ H fun x H1 => ∃ c, x = .bl c ∧ Q c H1 := by
  obtain ⟨U, m, r, h, hr, er, o⟩ := q
  refine ⟨U, m, r, h, hr, er, ?_⟩
  cases e : me r h with
  | stuck => rw [e] at o; exact o
  | exc _ _ => rw [e] at o; exact o
  | ok v h1 =>
    obtain ⟨c, rfl⟩ := hB _ _ _ _ e
    rw [e] at o
    intro H1 U1 m1 g hr1 x rx
    cases rx
    exact ⟨c, rfl, o H1 U1 m1 g hr1⟩
theorem din_bl {neg : Bool} (r : Ev) (h : PH) (v : Val) (h1 : PH) (e : eBin (gDIn neg) mi md r h = .ok v h1) : ∃ c, v = .bl c := by
  unfold eBin at e
  cases e1 : mi r h with
  | ok x h2 =>
    rw [e1] at e
    simp only [Res.bind] at e
    cases e2 : md r h2 with
    | ok y h3 =>
      rw [e2] at e
      simp only [lift] at e
      split at e
      · rename_i z ez
        cases e
        exact isB_din _ _ _ _ ez
      · cases e
    | exc _ _ => rw [e2] at e; cases e
    | stuck => rw [e2] at e; cases e
  | exc _ _ => rw [e1] at e; cases e
  | stuck => rw [e1] at e; cases e
theorem ct_din (hi : CE T X i mi) (hd : CE T X o md) (hm : behindInMarks .In o = false := by first | exact nomark _ | rfl | decide) : CT T X (.Compare i [.In] [o] pos) (eBin (gDIn false) mi md) := fun ok W tk =>
  pt_imp (pt_cmp (pc_din (by have := ok.un; omega) (hi ok W tk) (hd ok W tk)) hm) fun σ H Q q => by
    have := din_run (tB_of din_bl q)
    simp only [Bool.bne_false] at this
    exact this
theorem ct_dnin (hi : CE T X i mi) (hd : CE T X o md) (hm : behindInMarks .NotIn o = false := by first | exact nomark _ | rfl | decide) : CT T X (.Compare i [.NotIn] [o] pos) (eBin (gDIn true) mi md) := fun ok W tk =>
  pt_imp (pt_cmp (pc_dnotin (by have := ok.un; omega) (hi ok W tk) (hd ok W tk)) hm) fun σ H Q q => by
    have := din_run (tB_of din_bl q)
    simp only [Bool.bne_true] at this
    exact this
end

/-! ### d[k] = v of a located dict -/
def gDPut (h : PH) (x y v : Val) : Option PH := match x with
  | .ref l => match h[l]? with
    | some (.dct ks vs) => if dKs ks && decide (ks.length < 1000000) && (isKey y).isSome then (let p := putV y v ks vs; some (h.set l (.dct p.1 p.2))) else none
    | _ => none
  | _ => none
def sDPut' (d i e : Ex) : Stm := fun r h => (e r h).bind fun v h1 => (d r h1).bind fun x h2 => (i r h2).bind fun y h3 => match gDPut h3 x y v with
  | some h4 => .ok (.nx r) h4
  | none => .stuck
section
variable {T : Tab} {X : Cx} {o i value : Expr} {pos pos' : Pos} {md mi me : Ex}
/-- a located dict of the first kind is written -/
theorem dput_ok {H : Hp} {U : Addr → Prop} {m : List (Option Addr)} {h h4 : PH} {x y v : Val} {xv yv vv : V} (hr : HR T H U m h) (rx : Rep T H U m x xv) (ry : Rep T H U m y yv) (rv : Rep T H U m v vv) (e : gDPut h x y v = some h4) :
    ∃ a H4, xv = .ref a ∧ DPut H a yv vv H4 ∧ Gr H U m H4 U m ∧ HR T H4 U m h4 := by
  unfold gDPut at e
  split at e
  · rename_i l
    split at e
    · rename_i ks vs eh
      split at e
      · rename_i hc
        simp only [Bool.and_eq_true, decide_eq_true_eq] at hc
        obtain ⟨⟨hk, hl⟩, hs⟩ := hc
        cases e
        rcases hr.obj l _ eh with ⟨_, e0⟩ | ⟨a, e1, ob⟩
        · cases e0
        cases rx with
        | ref h1 h2 =>
          obtain rfl := h2 a e1
          obtain ⟨kvs, q1, q2, q3⟩ := DRep.kd (show DRep T H U m a ks vs from ob) hk
          subst q2
          cases ek : isKey y with
          | none => rw [ek] at hs; cases hs
          | some k =>
            obtain rfl := isKey_eq ek
            obtain rfl := key_rep ry
            have lv : Lv m a := ⟨l, e1⟩
            obtain ⟨p1, p2⟩ := putV_ok veq_k q3 rv
            have g : Gr H U m (upd H a (.dK (putK kvs k vv))) U m := Gr.write lv
            refine ⟨a, _, rfl, DPut.k q1 (Nat.lt_of_lt_of_le (by simpa using hl) (big_line (Nat.le_refl _))), g, hr.write e1 (.inl ⟨_, upd_same, p1, hr.reps g p2⟩)⟩
      · cases e
    · cases e
  · cases e
theorem cs_dput (he : CE T X value me) (hd : CE T X o md) (hi : CE T X i mi) (hs : swapsWith value (some (.Subscript o i pos')) pos.line X.env = pure false := by rfl) : CS T X (.Assign [.Subscript o i pos'] value pos) (sDPut' md mi me) := fun ok po W tk =>
  ps_imp (ps_dput (by have := ok.un; omega) (hd ok W tk) (hi ok W tk) (he ok W tk) hs) fun D σ H ⟨U, m, r, h, hr, er, q⟩ => by
    refine tE_then hr er q fun vv H1 U1 m1 h1 v g1 hr1 er1 rv q1 => ?_
    refine tE_then hr1 er1 q1 fun xv H2 U2 m2 h2 x g2 hr2 er2 rx q2 => ?_
    refine tE_then hr2 er2 q2 fun yv H3 U3 m3 h3 y g3 hr3 er3 ry q3 => ?_
    cases e : gDPut h3 x y v with
    | none => rw [e] at q3; exact (show False from q3).elim
    | some h4 =>
      rw [e] at q3
      obtain ⟨a, H4, e1, e2, g4, hr4⟩ := dput_ok hr3 (hr2.rep g3 rx) ry (hr2.rep g3 (hr1.rep g2 rv)) e
      exact ⟨a, H4, e1, e2, q3 H4 U3 m3 g4 hr4 σ (hr3.env g4 er3)⟩
end

/-! ### len(d) -/
def gLenD (h : PH) : List Val → Option Val
  | [x] => (match view h x with
    | .dct ks _ => if dKs ks then some (.int (ks.length : Nat)) else none
    | _ => none)
  | _ => none
theorem lenD_S {T : Tab} {X : Cx} (ok : XOk T X) : CallS T X (.builtin "len") gLenD := CallS.of (call_lenD (X := X)) fun hr r e k => by
  unfold gLenD at e
  split at e
  · rename_i x0
    obtain ⟨y, rfl, r1⟩ := one_reps r
    split at e
    · rename_i ks vs ey
      split at e
      · rename_i hk
        cases e
        obtain ⟨a, rfl, d⟩ := view_dct hr r1 ey
        obtain ⟨kvs, e1, e2, e3⟩ := d.kd hk
        subst e2
        refine ⟨a, kvs, rfl, e1, ?_⟩
        have := k (.int (kvs.length : Nat)) _ Ext.rfl' (by rw [List.length_map]; exact .int _)
        exact this
      · cases e
    · cases e
  · cases e
end SW

namespace SW
open PySem PySem.Spec PyProof.Rows L2

/-! ### {k: v for ..}: a dict of the first kind that is never written -/
def putP (d : List Val × List Val) (p : Val) : List Val × List Val := match p with
  | .ins 1 [k, v] => putV k v d.1 d.2
  | _ => d
def putAll (ps : List Val) : List Val × List Val := ps.foldl putP ([], [])
def eKV (ek ev : Ex) : Ev → SM (List Val) := fun r h => (ek r h).bind fun k h1 => (ev r h1).bind fun v h2 => if (isKey k).isSome then .ok [.ins 1 [k, v]] h2 else .stuck
def eDC (ms : Ev → SM Src) (g : TGm) (mt : Option Ex) (ek ev : Ex) (own : List Nat) : Ex := fun r h => (ms r h).bind fun src h1 => (compLoop src g mt (eKV ek ev) own src.n 0 r h1).bind fun ps h2 =>
  if ps.length < 1000000 then .ok (.dct (putAll ps).1 (putAll ps).2) h2 else .stuck
/-- what stands for the dict at D -/
def DAt (T : Tab) (H : Hp) (U : Addr → Prop) (m : List (Option Addr)) (D : Addr) (ps : List Val) : Prop := ∃ kvs : List (L2.Key × V), H D = some (.dK kvs) ∧ kvs.length ≤ ps.length ∧ (putAll ps).1 = kvs.map (fun p => kVal p.1) ∧ Reps T H U m (putAll ps).2 (kvs.map (·.2))
structure InD (T : Tab) (D : Addr) (H : Hp) (U : Addr → Prop) (m : List (Option Addr)) (h : PH) (ps : List Val) : Prop where
  hr : HR T H U m h
  nl : ¬ Lv m D
  ud : U D
  at_ : DAt T H U m D ps
section
variable {T : Tab} {D : Addr} {H H' H2 : Hp} {U U' U2 : Addr → Prop} {m m' m2 : List (Option Addr)} {h h' : PH}
theorem InD.step {ps : List Val} (c : InD T D H U m h ps) (g : Gr H U m H' U' m') (hr : HR T H' U' m' h') : InD T D H' U' m' h' ps := by
  obtain ⟨kvs, e, n, k, r⟩ := c.at_
  exact ⟨hr, g.live c.nl e, g.up _ c.ud (by rw [e]; exact fun z => nomatch z) c.nl, kvs, g.keep _ _ c.nl e, n, k, c.hr.reps g r⟩
theorem putK_len {κ : Type} [DecidableEq κ] (kvs : List (κ × V)) (k : κ) (v : V) : (putK kvs k v).length ≤ kvs.length + 1 := by
  unfold putK; split <;> simp
theorem InD.push {ps : List Val} {k : L2.Key} {y : Val} {yv : V} (c : InD T D H U m h ps) (ry : Rep T H U m y yv) : ∃ kvs, H D = some (.dK kvs) ∧ kvs.length ≤ ps.length ∧ InD T D (upd H D (.dK (putK kvs k yv))) U m h (ps ++ [.ins 1 [kVal k, y]]) := by
  obtain ⟨kvs, e, n, ek, r⟩ := c.at_
  have gw : Gw H U m (upd H D (.dK (putK kvs k yv))) U m := Gd.gw Gd.write c.hr.sub c.ud
  refine ⟨kvs, e, n, ⟨c.hr.len, c.hr.nd, c.hr.sub, fun a ha => ?_, fun l o q => ?_⟩, c.nl, c.ud, ?_⟩
  · by_cases q : a = D
    · subst q; rw [upd_same]; exact ⟨_, rfl, True.intro⟩
    · rw [upd_ne q]; exact c.hr.us a ha
  · rcases c.hr.obj l o q with z | ⟨a, e1, e2⟩
    · exact .inl z
    · exact .inr ⟨a, e1, e2.gw c.hr.us gw (upd_ne fun z => c.nl ⟨l, z ▸ e1⟩)⟩
  · have ea : putAll (ps ++ [.ins 1 [kVal k, y]]) = putV (kVal k) y (putAll ps).1 (putAll ps).2 := by
      unfold putAll; rw [List.foldl_append]; rfl
    obtain ⟨p1, p2⟩ := putV_ok (k := k) veq_k r ry
    refine ⟨_, upd_same, ?_, ?_, ?_⟩
    · rw [List.length_append]
      have := putK_len kvs k yv
      simp only [List.length_cons, List.length_nil]; omega
    · rw [ea, ek]; exact p1
    · rw [ea, ek]; exact Reps.gr gw c.hr.us p2
theorem Gd.grO {o : HO} (hD : H D = none) (g : Gd D (upd H D o) (addU U D) m H' U' m') : Gr H U m H' U' m' := by
  refine ⟨fun a u ha e => g.keep a u ha (ne_of_none e hD) (by rw [upd_ne (ne_of_none e hD)]; exact e), fun a h => ?_, ⟨g.ext.len, g.ext.old, fun l a hl e => ?_⟩, fun a h => g.there a (upd_there a h), fun a h1 h2 h3 => g.up a (.inl h1) (upd_there a h2) h3⟩
  · rcases g.new a h with (z | z) | z
    · exact .inl z
    · exact .inr (z ▸ hD)
    · by_cases e : a = D
      · exact .inr (e ▸ hD)
      · rw [upd_ne e] at z; exact .inr z
  · have z := g.ext.new l a hl e
    by_cases e2 : a = D
    · exact e2 ▸ hD
    · rw [upd_ne e2] at z; exact z
/-- the loop of a dict's comprehension -/
theorem dc_walk {J : It} {src : Src} {g : TGm} {vs own : List Nat} {mt : Option Ex} {ek ev : Ex} {H0 Hs : Hp} {U0 Us : Addr → Prop} {m0 ms : List (Option Addr)} {hs hF : PH} {ps qs : List Val} {r : Ev} {σ : L2.St} {Fin : Hp → Prop}
    (w : WalkS T J src H0 U0 m0) (hv : ∀ i ∈ vs, i ∈ own) (gw : Gw H0 U0 m0 Hs Us ms) (c : InD T D Hs Us ms hs ps) (er : ER T Hs Us ms r σ) (e : compLoop src g mt (eKV ek ev) own src.n 0 r hs = .ok qs hF) (hz : ps.length + qs.length < sizeLine)
    (fin : ∀ H U m, Gd D Hs Us ms H U m → InD T D H U m hF (ps ++ qs) → Fin H) :
    ∃ Wv : Nat → Nat → Hp → Prop, (∃ k, Wv 0 k Hs) ∧ ∀ i k H, Wv i k H → (J.stop i H ∧ Fin H) ∨ (J.go i H ∧ ∃ Nx : Hp → Prop, (∀ H', Nx H' → ∃ k', k' < k ∧ Wv (i + 1) k' H') ∧ ∀ x H', J.yld i H x H' →
      tG T W0 g vs x (wipe σ own) H' fun σ2 H2 => wipe σ2 own = wipe σ own ∧ tY T W0 mt σ2 H2 fun b H3 => if b = true then tE T W0 ek σ2 H3 fun y H4 => tE T W0 ev σ2 H4 fun z H5 => ∃ kvs k, y = kV k ∧ H5 D = some (.dK kvs) ∧ kvs.length < sizeLine ∧ Nx (upd H5 D (.dK (putK kvs k z))) else Nx H3) := by
  refine ⟨fun i k H => i + k = src.n ∧ ∃ U m h as zs, InD T D H U m h as ∧ ER T H U m r σ ∧ Gd D Hs Us ms H U m ∧ compLoop src g mt (eKV ek ev) own k i r h = .ok zs hF ∧ as ++ zs = ps ++ qs, ⟨src.n, by omega, Us, ms, hs, ps, qs, c, er, Gr.refl.gd, e, rfl⟩, ?_⟩
  rintro i k H ⟨hik, U, m, h, as, zs, c', er', gd, e', ea⟩
  have gw' : Gw H0 U0 m0 H U m := gw.trans (gd.gw c.hr.sub c.ud)
  cases k with
  | zero =>
    unfold compLoop at e'
    split at e'
    · rename_i hf
      cases e'
      obtain rfl : i = src.n := by omega
      refine .inl ⟨w.stop gw' c'.hr hf, fin H U m gd ?_⟩
      rw [← ea, List.append_nil]
      exact c'
    · cases e'
  | succ k =>
    unfold compLoop at e'
    split at e'
    · cases e'
    · rename_i v ev1
      obtain ⟨w1, w2⟩ := w.go gw' c'.hr (by omega) ev1
      obtain ⟨r1, h1, e1, e'⟩ := noexc_ok e'
      obtain ⟨b, h2, e2, e'⟩ := noexc_ok e'
      refine .inr ⟨w1, fun H => i + 1 + k = src.n ∧ ∃ U m h as zs, InD T D H U m h as ∧ ER T H U m r σ ∧ Gd D Hs Us ms H U m ∧ compLoop src g mt (eKV ek ev) own k (i + 1) r h = .ok zs hF ∧ as ++ zs = ps ++ qs, fun H' q => ⟨k, by omega, q⟩, fun x H' y => ?_⟩
      obtain ⟨ex, rx⟩ := w2 x H' y
      have g1 : Gr H U m H' U m := Gr.of_ext ex
      have cc := c'.step g1 (c'.hr.ext ex)
      have er1 := c'.hr.env g1 er'
      refine ⟨U, m, wipeE r own, h, v, cc.hr, er1.wipes own, rx, ?_⟩
      rw [e1]
      intro H1 U1 m1 g2 hr1 σ2 er2 sb
      refine ⟨?_, ?_⟩
      · have a1 : wipe σ2 own = wipe (wipe σ own) own := wipe_same (sb.mono hv)
        have a2 : wipe (wipe σ own) own = wipe σ own := (wipe_same (vs := own) (σ := σ) (σ' := wipe σ own) ⟨wipe_length _ _, fun j hj => wipe_out hj⟩)
        rw [a1, a2]
      · have c1 := cc.step g2 hr1
        refine tY_then hr1 er2 e2 fun H2 U2 m2 g3 hr2 er3 => ?_
        have c2 := c1.step g3 hr2
        have gAll : Gr H U m H2 U2 m2 := (g1.trans g2).trans g3
        have erO := c'.hr.env gAll er'
        cases b with
        | false =>
          rw [if_neg Bool.false_ne_true]
          rw [if_neg Bool.false_ne_true] at e'
          exact ⟨by omega, U2, m2, h2, as, zs, c2, erO, gd.trans gAll.gd, e', ea⟩
        | true =>
          rw [if_pos rfl]
          rw [if_pos rfl] at e'
          obtain ⟨y1, h3, e3, e'⟩ := noexc_ok e'
          obtain ⟨z1, h4, e4, e'⟩ := bind_ok e'
          cases e'
          obtain ⟨kk, h5, e5, e3⟩ := bind_ok e3
          obtain ⟨vv, h6, e6, e3⟩ := bind_ok e3
          split at e3
          · rename_i hk
            cases e3
            cases eik : isKey kk with
            | none => rw [eik] at hk; cases hk
            | some kx =>
              have hkk := isKey_eq eik
              subst hkk
              have hl : as.length + (1 + z1.length) = ps.length + qs.length := by
                have := congrArg List.length ea
                simp at this; omega
              refine ⟨U2, m2, r1, h2, hr2, er3, ?_⟩
              rw [e5]
              intro H4 U4 m4 g4 hr4 y ry
              have c4 := c2.step g4 hr4
              refine ⟨U4, m4, r1, h5, hr4, hr2.env g4 er3, ?_⟩
              rw [e6]
              intro H5 U5 m5 g5 hr5 z rz
              have c5 := c4.step g5 hr5
              obtain ⟨kvs, q1, q2, q3⟩ := c5.push (k := kx) rz
              refine ⟨kvs, kx, key_rep ry, q1, by omega, ?_⟩
              have gB : Gd D H U m (upd H5 D (.dK (putK kvs kx z))) U5 m5 := ((gAll.trans g4).trans g5).gd.trans Gd.write
              have gwB := gB.gw c'.hr.sub c'.ud
              exact ⟨by omega, U5, m5, _, as ++ [.ins 1 [kVal kx, vv]], z1, q3, ⟨er'.len, fun i v q => let ⟨x, q1, q2⟩ := er'.val i v q; ⟨x, q1, Rep.gr gwB c'.hr.us q2⟩⟩, gd.trans gB, e4, by rw [List.append_assoc]; exact ea⟩
          · cases e3
end
section
variable {T : Tab} {X : Cx} {kx vx tg iter : Expr} {ifs : List Expr} {scope : Scope} {pos : Pos} {ms : Ev → SM Src} {g : TGm} {mt : Option Ex} {ek ev : Ex} {vs : List Nat}
theorem dc_run {W : WC} {own : List Nat} {σ : L2.St} {H : Hp} {Q : VK} (hv : ∀ i ∈ vs, i ∈ own) (q : tE T W (eDC ms g mt ek ev own) σ H Q) : tDc (tI T W ms) (tG T W0 g vs) (tY T W0 mt) (tE T W0 ek) (tE T W0 ev) own σ H Q := by
  obtain ⟨U, m, r, h, hr, er, o⟩ := q
  refine ⟨U, m, r, h, hr, er, ?_⟩
  unfold eDC at o
  cases e0 : ms r h with
  | stuck => rw [e0] at o; exact o
  | exc _ _ => rw [e0] at o; exact o
  | ok src h1 =>
    rw [e0] at o
    intro H1 U1 m1 g0 hr1 J w D hD
    cases e1 : compLoop src g mt (eKV ek ev) own src.n 0 r h1 with
    | stuck => simp only [Res.bind, e1] at o; exact o.elim
    | exc e2 h2 => exact absurd e1 (compLoop_noexc _ _ _ _ _ _)
    | ok ps hF =>
      simp only [Res.bind, e1] at o
      by_cases hl0 : ps.length < 1000000
      · rw [if_pos hl0] at o
        have hl : ps.length < sizeLine := Nat.lt_of_lt_of_le hl0 (big_line (Nat.le_refl _))
        have gw : Gw H1 U1 m1 (upd H1 D (.dK [])) (addU U1 D) m1 := (growU hD).gw hr1.sub
        have c0 : InD T D (upd H1 D (.dK [])) (addU U1 D) m1 h1 [] := ⟨hr1.addU hD True.intro, hr1.notlv hD, .inr rfl, [], upd_same, Nat.le_refl _, rfl, .nil⟩
        refine dc_walk w hv gw c0 (hr.env (g0.trans (growU hD)) er) e1 (by simpa using hl) fun H' U' m' gd c => ?_
        have c : InD T D H' U' m' hF ps := c
        obtain ⟨kvs, a1, a2, a3, a4⟩ := c.at_
        have gO : Gr H U m H' U' m' := g0.trans (Gd.grO hD gd)
        have eU : addU (fun a => U' a ∧ a ≠ D) D = U' := funext fun a => propext ⟨fun z => z.elim (·.1) fun z => z ▸ c.ud, fun z => by
          by_cases q : a = D
          · exact .inr q
          · exact .inl ⟨z, q⟩⟩
        have hrU : HR T H' (addU (fun a => U' a ∧ a ≠ D) D) m' hF := by rw [eU]; exact c.hr
        have g2 : Gr H U m H' (fun a => U' a ∧ a ≠ D) m' := ⟨gO.keep, fun a z => gO.new a z.1, gO.ext, gO.there, fun a h1 h2 h3 => ⟨gO.up a h1 h2 h3, fun z => h2 (z ▸ g0.fresh hD)⟩⟩
        refine o H' _ m' g2 (hrU.shrink c.nl) (.ref D) (.dK a1 (fun z => z.2 rfl) a3 ?_)
        exact Reps.gr shrinkU hrU.us (by rw [eU]; exact a4)
      · rw [if_neg hl0] at o; exact o.elim
theorem ce_dc (own : List (Str × Nat)) (hi : CI T X tg iter ms) (hg : ∀ (s : Shared) (H : Hp) (C : Addr) (cl : List (Str × Addr)) (fp : List Addr), CG T (X.blk s H scope (compEnvC scope cl C X.env) fp) tg g vs)
    (ht : ∀ (s : Shared) (H : Hp) (C : Addr) (cl : List (Str × Addr)) (fp : List Addr), CTs T (X.blk s H scope (compEnvC scope cl C X.env) fp) ifs mt)
    (hk : ∀ (s : Shared) (H : Hp) (C : Addr) (cl : List (Str × Addr)) (fp : List Addr), CE T (X.blk s H scope (compEnvC scope cl C X.env) fp) kx ek)
    (he : ∀ (s : Shared) (H : Hp) (C : Addr) (cl : List (Str × Addr)) (fp : List Addr), CE T (X.blk s H scope (compEnvC scope cl C X.env) fp) vx ev)
    (ok : BlkOk X.N X.env.scope scope own := by exact blkOk_by (by rfl)) (hv : ∀ i ∈ vs, i ∈ own.map (·.2) := by decide)
    (hs : ∀ x, foldedSetIterable iter X.env x = pure x := by intro _; rfl) : CE T X (.DictComp kx vx [⟨tg, iter, ifs, 0⟩] scope pos) (eDC ms g mt ek ev (own.map (·.2))) := fun xo W tk =>
  have bo : ∀ (s : Shared) (H : Hp) (C : Addr) (cl : List (Str × Addr)) (fp : List Addr), XOk T (X.blk s H scope (compEnvC scope cl C X.env) fp) := fun _ _ _ _ _ => ⟨xo.k, xo.calm, xo.nd, xo.un, xo.hd⟩
  pe_imp (pe_dc xo.calm xo.nd (hi xo W tk) ok (fun s H C cl fp => hg s H C cl fp (bo ..) W0 (Tk.none _)) (fun s H C cl fp => ht s H C cl fp (bo ..) W0 (Tk.none _)) (fun s H C cl fp => hk s H C cl fp (bo ..) W0 (Tk.none _)) (fun s H C cl fp => he s H C cl fp (bo ..) W0 (Tk.none _)) hs) fun σ H Q q => dc_run hv q
end

/-! ### d.update({..}) of a located dict -/
def isKK (ks : List Val) : Bool := dKs ks && decide (ks.length < 400000)
def putL : List Val → List Val → List Val × List Val → List Val × List Val
  | k :: ks, v :: vs, d => putL ks vs (putV k v d.1 d.2)
  | _, _, d => d
def eDUpd (d e : Ex) : Ex := fun r h => (d r h).bind fun x h1 => match x with
  | .ref l => (match h1[l]? with
    | some (.dct ks0 _) => if dKs ks0 then (e r h1).bind fun y h2 => (match y with
      | .dct ks2 vs2 => (match h2[l]? with
        | some (.dct ks vs) => if isKK ks && isKK ks2 then (let q := putL ks2 vs2 (ks, vs); .ok .non (h2.set l (.dct q.1 q.2))) else .stuck
        | _ => .stuck)
      | _ => .stuck) else .stuck
    | _ => .stuck)
  | _ => .stuck
/-- the rule of update -/
def rDUpd : V → List V → Hp → VK → Prop := fun x xs H Q => ∃ (a b : Addr) (kvs more : List (L2.Key × V)), x = .ref a ∧ xs = [.ref b] ∧ a ≠ b ∧ H a = some (.dK kvs) ∧ H b = some (.dK more) ∧ kvs.length + more.length ≤ 1000000 ∧ Q .non (upd H a (.dK (mergeK kvs more)))
theorem mergeK_len : ∀ (more kvs : List (L2.Key × V)), (mergeK kvs more).length ≤ kvs.length + more.length
  | [], kvs => by simp [mergeK]
  | p :: more, kvs => by
    have h1 := mergeK_len more (putK kvs p.1 p.2)
    have h2 := putK_len kvs p.1 p.2
    show (mergeK (putK kvs p.1 p.2) more).length ≤ _
    simp only [List.length_cons]; omega
theorem mt_dupd {X : Cx} : MtR X "dict.update" rDUpd := fun pins s σ H x xs v us Q I rx rs ⟨a, b, kvs, more, e1, e2, hne, ha, hb, hl, q⟩ => by
  cases e1; cases e2; cases rx
  obtain ⟨u, rfl, ru⟩ := vals1 rs
  cases ru
  obtain ⟨z1, hd1, vs1, rel1, d1⟩ := I.hok a _ ha
  obtain ⟨z2, hd2, vs2, rel2, d2⟩ := I.hok b _ hb
  have l1 := rel1.length
  have l2 := rel2.length
  refine PySem.call_meetsIn PySem.F.slot_dict_update d1.typeIs PySem.F.entry_dict_update (PySem.F.args_dict_update_2 _ _) (PySem.meets_dict_update (mixKind X.prog X.w) a b hne hd2) ⟨vs1, vs2, d1, d2, by rw [← l1, ← l2]; exact big_line hl, fun h' m1 m2 sb => ?_⟩
  have he : ∃ q, h'.get? a = some q := let ⟨q, _, _, hq, _⟩ := m1; ⟨q, hq⟩
  refine ⟨.non, upd H a (.dK (mergeK kvs more)), d_write (t' := s.toks) I (by rw [ha]; exact True.intro) sb he (dk_new ?_ hd1 (KV.merge rel2 rel1) m1), rfl, q⟩
  exact Nat.le_trans (mergeK_len more kvs) (big_line hl)
section
variable {T : Tab} {H : Hp} {U : Addr → Prop} {m : List (Option Addr)}
theorem putL_ok : ∀ {more kvs : List (L2.Key × V)} {vs2 vs : List Val}, Reps T H U m vs (kvs.map (·.2)) → Reps T H U m vs2 (more.map (·.2)) →
    (putL (more.map fun p => kVal p.1) vs2 (kvs.map (fun p => kVal p.1), vs)).1 = (mergeK kvs more).map (fun p => kVal p.1) ∧ Reps T H U m (putL (more.map fun p => kVal p.1) vs2 (kvs.map (fun p => kVal p.1), vs)).2 ((mergeK kvs more).map (·.2))
  | [], kvs, vs2, vs, r, r2 => by cases r2; exact ⟨rfl, r⟩
  | p :: more, kvs, vs2, vs, r, r2 => by
    cases r2 with
    | cons q1 q2 =>
      obtain ⟨p1, p2⟩ := putV_ok (k := p.1) veq_k r q1
      simp only [List.map_cons, putL]
      have e : putV (kVal p.1) _ (kvs.map fun p => kVal p.1) vs = ((putK kvs p.1 p.2).map (fun p => kVal p.1), (putV (kVal p.1) _ (kvs.map fun p => kVal p.1) vs).2) := Prod.ext p1 rfl
      rw [e]
      exact putL_ok (kvs := putK kvs p.1 p.2) p2 q2
end
section
variable {T : Tab} {X : Cx} {o e : Expr} {md me : Ex} {apos cpos : Pos}
theorem ce_dupd (hd : CE T X o md) (he : CE T X e me)
    (hbase : attributeBase o "update" X.env (eval o X.env) = eval o X.env := by rfl)
    (hfew : ((backTo cpos (starEach [e] X.env)).all (fun x => !x.1) && (backToKw cpos (keywordEach [] X.env)).all (fun x => x.1.isSome)
      && decide ([e].length + ([] : List Keyword).length + (if ([] : List Keyword).isEmpty then 0 else 1) < 30)) = true := by rfl)
    (hline : (apos.endLine == cpos.line) = true := by rfl) (hs : starEach [e] X.env = (false, eval e X.env) :: starEach [] X.env := by rfl) (hplain : (backTo cpos (starEach [] X.env)).any (·.1) = false := by rfl) :
    CE T X (.Call (.Attribute o "update" apos) [e] [] cpos) (eDUpd md me) := fun ok W tk =>
  pe_imp (pe_bm PySem.F.plainAttrs_dict PySem.F.slot_dict_update PySem.F.type_dict_update mt_dupd (hd ok W tk) (pa_cons (he ok W tk) pa_nil hs) hbase hfew hline hs hplain) fun σ H Q ⟨U, m, r, h, hr, er, oo⟩ => by
    refine tE_then hr er oo fun x H1 U1 m1 h1 v g1 hr1 er1 rx o1 => ?_
    split at o1
    · rename_i l
      split at o1
      · rename_i ks0 vs0 eh
        split at o1
        · rename_i hk0
          rcases hr1.obj l _ eh with ⟨_, e0⟩ | ⟨a, e1, ob⟩
          · cases e0
          cases rx with
          | ref hl1 hl2 =>
            obtain rfl := hl2 a e1
            obtain ⟨kvs0, q1, _, _⟩ := DRep.kd (show DRep T H1 U1 m1 a ks0 vs0 from ob) hk0
            refine ⟨.inr (.inr (.inl ⟨rfl, .inl ⟨kvs0, q1⟩⟩)), ?_⟩
            refine tE_then hr1 er1 o1 fun y H2 U2 m2 h2 w g2 hr2 er2 ry o2 => ?_
            split at o2
            · rename_i ks2 vs2
              split at o2
              · rename_i ks vs eh2
                split at o2
                · rename_i hc
                  simp only [isKK, Bool.and_eq_true, decide_eq_true_eq] at hc
                  obtain ⟨⟨hk, hz⟩, hk2, hz2⟩ := hc
                  rcases hr2.obj l _ eh2 with ⟨_, e0⟩ | ⟨a2, e2, ob2⟩
                  · cases e0
                  have ea : a2 = a := by
                    have := g2.ext.old l a2 (List.getElem?_eq_some_iff.mp e1).1 e2
                    rw [e1] at this; cases this; rfl
                  subst ea
                  obtain ⟨kvs, p1, p2, p3⟩ := DRep.kd (show DRep T H2 U2 m2 a2 ks vs from ob2) hk
                  subst p2
                  have lv : Lv m2 a2 := ⟨l, e2⟩
                  have key : ∀ b (more : List (L2.Key × V)), a2 ≠ b → H2 b = some (.dK more) → ks2 = more.map (fun p => kVal p.1) → Reps T H2 U2 m2 vs2 (more.map (·.2)) → rDUpd (.ref a2) [.ref b] H2 Q := fun b more hne hb ek r2 => by
                    subst ek
                    obtain ⟨f1, f2⟩ := putL_ok p3 r2
                    have g : Gr H2 U2 m2 (upd H2 a2 (.dK (mergeK kvs more))) U2 m2 := Gr.write lv
                    refine ⟨a2, b, kvs, more, rfl, rfl, hne, p1, hb, ?_, o2 _ U2 m2 g (hr2.write e2 (.inl ⟨_, upd_same, f1, hr2.reps g f2⟩)) _ .non⟩
                    have := hz; have := hz2
                    simp only [List.length_map] at *; omega
                  have nU : ∀ b, ¬ U2 b → a2 ≠ b := fun b hb e => hb (e ▸ hr2.sub a2 lv)
                  cases ry with
                  | dK h1 h2' h3 h4 => exact key _ _ (nU _ h2') h1 h3 h4
                  | dT h1 h2' h3 h4 => rw [h3] at hk2; cases hk2
                · exact o2.elim
              · exact o2.elim
            · exact o2.elim
        · exact o1.elim
      · exact o1.elim
    · exact o1.elim
end
end SW

namespace SW
open PySem PySem.Spec PyProof.Rows L2
/-! ### set of a tuple of tuples of ints: the library tells it of a list -/
section
variable {P : Program} {w : World} {A : Around} {E : Value → Shared → Prop} {s : Shared}
abbrev newS (w : World) : Obj := { cls := .type "set", dict := none, data := .set #[] 0 (.fresh 0 0 (!w.params.followText "set-order")) }
theorem set_of_tup {l : Addr} {items : Array Value} (ks : List (Addr × List Int)) {Q : Value → Shared → Prop} (hh : A.handled = none) (hl : s.heap.IsTuple l items) (hit : items.toList = ks.map fun p => Value.ref p.1)
    (hk : ∀ p ∈ ks, IsT P w s.heap p.2 p.1) (hfew : ks.length < 64) (hu : A.units + 3 < cLine)
    (h : ∀ (h' : Heap) (tk : Nat) L es ep t, SetTR P w h' s.heap.objs.size L es ep t → Got ks ks.length L → (∀ b o, s.heap.get? b = some o → h'.get? b = some o) → Q (.ref s.heap.objs.size) { s with heap := h', toks := tk }) :
    wpAny (model P w) A (call (.type "set") [.ref l]) Q E s := by
  have n : items.size = ks.length := by simpa using congrArg List.length hit
  obtain ⟨c, tl, hmro⟩ := F.called_set.mro
  have hmade := F.called_set.made
  have hsub := F.called_set.sub
  refine wpAny_call (codeAny_of_tree ?_)
  show wpAny _ _ (callAny (.type "set") _) _ _ _
  refine wpAny_pure ⟨Code.quiet_builtin _ (by decide +kernel), codeAny_builtin F.entry_type_call ?_⟩
  rw [Around.under_plain (weight_type_call_type "set" [.ref l] []) rfl]
  have h1 := F.called_set.notType
  have h2 := F.called_set.canCreate
  have hct := F.typeCall_set_1 (.ref l)
  repeat (any_goals (first | assumption | wp_step))
  refine codeAny_mono (code_set_led1 (.ref l) (E := E) (Q₁ := fun obj s₁ => obj = .ref s.heap.objs.size ∧ s₁ = { s with heap := s.heap.push (newS w) }) ⟨rfl, rfl⟩) fun r s₁ hr => ?_
  cases r with
  | error e => exact hr
  | ok fl =>
    cases fl with
    | ret obj =>
      obtain ⟨rfl, rfl⟩ := hr
      have hS : (s.heap.push (newS w)).get? s.heap.objs.size = some (newS w) := Heap.get?_push_size _ rfl
      have hT : Shared.TypeIs { s with heap := s.heap.push (newS w) } (.ref s.heap.objs.size) "set" := ⟨_, hS, rfl⟩
      have hli := F.called_set.init.lookup
      have hbi := F.called_set.init.bind (.ref s.heap.objs.size)
      repeat (any_goals (first | assumption | wp_step))
      refine codeAny_mono (codeAny_call_builtin (R := wants (fun r s₂ => r = .none ∧ ∃ h' tk L es ep t, s₂ = { s with heap := h', toks := tk } ∧ SetTR P w h' s.heap.objs.size L es ep t ∧ Got ks ks.length L ∧ (∀ b o, s.heap.get? b = some o → h'.get? b = some o)) E) F.called_set.init.plain F.entry_set_init (check_set_init_1 hT ?_)) fun r₂ s₂ hr₂ => ?_
      · obtain ⟨ol, hol, hcl, nl, hdl⟩ := hl
        obtain ⟨ocls, odict, odata, oslots⟩ := ol
        simp only at hcl hdl
        subst hcl; subst hdl
        have hol' : (s.heap.push (newS w)).get? l = some { cls := .type "tuple", dict := odict, data := .seq items nl, slots := oslots } := Heap.get?_push_of_some _ hol
        have e1 := F.sub_tuple_set
        have e2 := F.sub_tuple_frozenset
        have e3 : (Value.type "tuple" == Value.type "dict") = false := by decide
        have hl1 : (s.heap.push (newS w)).IsTuple l items := ⟨_, hol', rfl, nl, rfl⟩
        unfold Builtin.«set.__init__» noKeywords Builtin.Frozenset.updateFrom
        generalize hPI : pyIter = PI
        wp_walk
        subst hPI
        refine wpAny_pyIter_tuple hl1 ?_
        refine wpAny_bind (wpAny_runValue ?_)
        have hlS : l < s.heap.objs.size := Heap.lt_size hol
        have hz : (s.heap.push (newS w)).objs.size = s.heap.objs.size + 1 := Heap.size_push ..
        have hneI : l ≠ (s.heap.push (newS w)).objs.size := by rw [hz]; exact Nat.ne_of_lt (Nat.lt_succ_of_lt hlS)
        have hSf : s.heap.objs.size ∉ [(s.heap.push (newS w)).objs.size, l] := by
          rw [hz]; simp only [List.mem_cons, List.not_mem_nil, or_false, not_or]
          exact ⟨Nat.ne_of_lt (Nat.lt_succ_self _), Nat.ne_of_gt hlS⟩
        have hval : ∀ (i : Nat) (v : Value), items[i]? = some v → ∃ p, ks[i]? = some p ∧ v = .ref p.1 := fun i v hv => by
          have q : items.toList[i]? = some v := by rw [Array.getElem?_toList]; exact hv
          rw [hit, List.getElem?_map] at q
          cases hq : ks[i]? with
          | none => rw [hq] at q; cases q
          | some p => rw [hq] at q; exact ⟨p, rfl, (Option.some.inj q).symm⟩
        have none_of : ∀ b, s.heap.objs.size ≤ b → s.heap.get? b = none := fun b hb => by
          cases q : s.heap.get? b with
          | none => rfl
          | some o => exact absurd (Nat.lt_of_lt_of_le (Heap.lt_size q) hb) (Nat.lt_irrefl _)
        refine set_update_tups ((Walks.tuple (by simp [hh]) _ l hneI items).toS) s.heap.objs.size hSf ks n hfew hval s.heap hk (none_of _ (Nat.le_refl _)) (fun b hb => none_of b (by
            rw [List.mem_singleton.mp hb, hz]; exact Nat.le_succ _)) hu (items.size - 0) 0 _ (by omega) (Nat.zero_le _)
          ⟨⟨_, Heap.get?_push_size _ rfl, rfl, rfl⟩, (hl1.push _)⟩ (fun b o e => Heap.get?_push_of_some _ (Heap.get?_push_of_some _ e)) ⟨[], #[], 0, _, setTR_fresh (Heap.get?_push_of_some _ hS), Got.zero ks⟩ ?_
        intro s' L es ep t hm hS' g' hkp
        obtain ⟨h', g2, d', tk', os'⟩ := s'
        have eg : g2 = s.gens := hm.gens
        have ed : d' = s.drawn := hm.drawn
        have eo : os' = s.os := hm.os
        subst eg; subst ed; subst eo
        show wpAny _ _ _ _ _ _
        refine wpAny_pure ?_
        show wpAny _ _ (ret Value.none) _ _ _
        rw [n] at g'
        exact wpAny_pure ⟨rfl, h', tk', L, es, ep, t, rfl, hS', g', hkp⟩
      · cases r₂ with
        | error e => exact hr₂
        | ok fl₂ =>
          cases fl₂ with
          | ret r =>
            obtain ⟨rfl, h', tk, L, es, ep, t, rfl, hS', g', hk'⟩ := hr₂
            repeat (any_goals (first | assumption | wp_step))
            exact h _ _ _ _ _ _ hS' g' hk'
          | _ => exact hr₂.elim
    | _ => exact hr.elim
end
section
variable {X : Cx}
/-- set(xs), xs a list or a tuple of tuples of ints -/
def rSetB (K : PySem.W.Frag) (P : Program) (w : World) : List V → Hp → VK → Prop := fun xs H Q => ∃ (l : Addr) (ks : List (Addr × List Int)), xs = [V.ref l] ∧ (SqL K H l (ks.map fun p => V.ref p.1) ∨ SqT K H l (ks.map fun p => V.ref p.1)) ∧ (∀ p ∈ ks, SqT K H p.1 (p.2.map V.int)) ∧ ks.length < 64 ∧
  ∀ a L, H a = none → (∀ p ∈ L, p ∈ ks) → (∀ p ∈ ks, p.2 ∈ L.map (·.2)) → Q (.ref a) (upd H a (SetTO P w a L))
theorem cr_setB (hc : X.calm = true) (hu : X.A.units + 64 < cLine) : CallR X (.type "set") (rSetB X.K X.prog X.w) := by
  intro pins s σ H xs us Q I r h
  obtain ⟨l, ks, rfl, hl | hl, hk, hf, q⟩ := h
  · exact cr_setOfT hc hu pins s σ H _ us Q I r ⟨l, ks, rfl, hl, hk, hf, q⟩
  · rw [Vals.ref1 r]
    obtain ⟨its, rv, pl, hz⟩ := I.tuple hl
    have hn : H s.heap.objs.size = none := I.hok.fresh (Nat.le_refl _)
    refine set_of_tup (P := X.prog) (w := X.w) ks (I.ok.hd hc) (show s.heap.IsTuple l its.toArray from pl) (by simpa using refs_of_vals rv) (fun p hp => I.isT (hk p hp)) hf (by omega) fun h' tk L es ep t R g k => ?_
    refine ⟨.ref s.heap.objs.size, upd H s.heap.objs.size (SetTO X.prog X.w s.heap.objs.size L), I.laid (t' := tk) k (Nat.le_refl _) (setTO_new R.t0), rfl, q _ L hn (fun p hp => ?_) fun p hp => ?_⟩
    · exact List.mem_of_mem_take (g.sub p hp)
    · exact g.all p (by rw [List.take_length]; exact hp)
end
end SW

namespace SW
open PySem PySem.Spec PyProof.Rows L2
/-! ### sorted(set(xs)), xs of pairs of small numbers -/
def prsV : List Val → Option (List (Int × Int))
  | [] => some []
  | .tup [.int a, .int b] :: r => (prsV r).map fun ps => (a, b) :: ps
  | _ => none
def insP (p : Int × Int) : List (Int × Int) → List (Int × Int)
  | [] => [p]
  | q :: r => if p = q then q :: r else if p.1 * 64 + p.2 < q.1 * 64 + q.2 then p :: q :: r else q :: insP p r
def ssP (ps : List (Int × Int)) : List (Int × Int) := ps.foldr insP []
def smP (p : Int × Int) : Bool := decide (0 ≤ p.1) && decide (p.1 < 64) && decide (0 ≤ p.2) && decide (p.2 < 64)
def setOut (xs : List Val) : Option (List Val) := (prsV xs).bind fun ps => if decide (ps.length < 64) && ps.all smP then some ((ssP ps).map fun p => .tup [.int p.1, .int p.2]) else none
def gSS (h : PH) : List Val → Option (List Val)
  | [x] => (match view h x with
    | .lst xs => setOut xs
    | .tup xs => setOut xs
    | _ => none)
  | _ => none
theorem insP_mem {p q : Int × Int} : ∀ {l : List (Int × Int)}, q ∈ insP p l ↔ q = p ∨ q ∈ l
  | [] => by simp [insP]
  | x :: l => by
    unfold insP
    split
    · rename_i e; subst e; simp
    · split
      · simp
      · simp only [List.mem_cons, insP_mem (l := l)]
        constructor
        · rintro (h | h | h) <;> simp [h]
        · rintro (h | h | h) <;> simp [h]
def cdP (p : Int × Int) : Int := p.1 * 64 + p.2
theorem cdP_inj {p q : Int × Int} (hp : smP p = true) (hq : smP q = true) (h : cdP p = cdP q) : p = q := by
  simp only [smP, Bool.and_eq_true, decide_eq_true_eq] at hp hq
  unfold cdP at h
  refine Prod.ext ?_ ?_ <;> omega
theorem insP_srt {p : Int × Int} (hp : smP p = true) : ∀ {l : List (Int × Int)}, (∀ q ∈ l, smP q = true) → List.Pairwise (fun a b => cdP a < cdP b) l → List.Pairwise (fun a b => cdP a < cdP b) (insP p l)
  | [], _, _ => List.pairwise_singleton ..
  | x :: l, hs, h => by
    unfold insP
    have hx := hs x (List.mem_cons_self ..)
    rw [List.pairwise_cons] at h
    split
    · exact List.pairwise_cons.mpr h
    · rename_i ne
      split
      · rename_i c
        refine List.pairwise_cons.mpr ⟨fun y hy => ?_, List.pairwise_cons.mpr h⟩
        rcases List.mem_cons.mp hy with rfl | z
        · exact c
        · exact Int.lt_trans c (h.1 y z)
      · rename_i c
        refine List.pairwise_cons.mpr ⟨fun y hy => ?_, insP_srt hp (fun q hq => hs q (List.mem_cons_of_mem _ hq)) h.2⟩
        rcases insP_mem.mp hy with rfl | z
        · have : cdP y ≠ cdP x := fun e => ne (cdP_inj hp hx e)
          have c' : ¬ cdP y < cdP x := c
          omega
        · exact h.1 y z
theorem ssP_mem {q : Int × Int} : ∀ {ps : List (Int × Int)}, q ∈ ssP ps ↔ q ∈ ps
  | [] => by simp [ssP]
  | p :: ps => by
    show q ∈ insP p (ssP ps) ↔ _
    rw [insP_mem, ssP_mem, List.mem_cons]
theorem ssP_srt : ∀ {ps : List (Int × Int)}, (∀ q ∈ ps, smP q = true) → List.Pairwise (fun a b => cdP a < cdP b) (ssP ps)
  | [], _ => List.Pairwise.nil
  | p :: ps, h => insP_srt (h p (List.mem_cons_self ..)) (fun q hq => h q (List.mem_cons_of_mem _ (ssP_mem.mp hq))) (ssP_srt fun q hq => h q (List.mem_cons_of_mem _ hq))
theorem srtP_eq : ∀ {xs ys : List (Int × Int)}, List.Pairwise (fun a b => cdP a < cdP b) xs → List.Pairwise (fun a b => cdP a < cdP b) ys → (∀ x, x ∈ xs ↔ x ∈ ys) → xs = ys := fun {xs ys} h1 h2 hm =>
  List.Perm.eq_of_pairwise (le := fun a b : Int × Int => cdP a < cdP b) (fun a b _ _ q1 q2 => by omega) h1 h2
    ((List.perm_ext_iff_of_nodup (h1.imp fun h e => by rw [e] at h; omega) (h2.imp fun h e => by rw [e] at h; omega)).mpr hm)
section
variable {T : Tab} {H : Hp} {U : Addr → Prop} {m : List (Option Addr)}
theorem prs_reps : ∀ {vs : List Val} {xs : List V} {ps : List (Int × Int)}, Reps T H U m vs xs → prsV vs = some ps →
    ∃ ks : List (Addr × List Int), xs = ks.map (fun p => V.ref p.1) ∧ ks.map (·.2) = ps.map (fun p => [p.1, p.2]) ∧ ∀ q ∈ ks, SqT T.K H q.1 (q.2.map V.int) ∧ ∃ a b, q.2 = [a, b] ∧ Rep T H U m (.tup [.int a, .int b]) (.ref q.1)
  | [], _, ps, r, e => by
    cases r
    cases e
    exact ⟨[], rfl, rfl, fun q hq => by cases hq⟩
  | v :: vs, _, ps, r, e => by
    cases r with
    | cons r1 r2 =>
      unfold prsV at e
      split at e
      · rename_i heq; cases heq
      · rename_i a b r' heq
        cases heq
        cases eb : prsV vs with
        | none => rw [eb] at e; cases e
        | some qs =>
          rw [eb] at e
          cases e
          obtain ⟨ks, e1, e2, e3⟩ := prs_reps r2 eb
          have r1' := r1
          cases r1 with
          | tup hz sq rr =>
            rename_i ad ys
            have ey : ys = [V.int a, V.int b] := by
              cases rr with
              | cons q1 q2 =>
                cases q1
                cases q2 with
                | cons q3 q4 => cases q3; cases q4; rfl
            subst ey
            refine ⟨(ad, [a, b]) :: ks, by rw [e1]; rfl, by simp [e2], fun q hq => ?_⟩
            rcases List.mem_cons.mp hq with rfl | z
            · exact ⟨sq.t, a, b, rfl, r1'⟩
            · exact e3 q z
      · cases e
end
section
variable {T : Tab} {X : Cx} {e : Expr} {me : Ex} {p p2 pos pos2 : Pos}
theorem out_reps {H : Hp} {U : Addr → Prop} {m : List (Option Addr)} {ps : List (Int × Int)} {ks L : List (Addr × List Int)} (hs : ∀ q ∈ ps, smP q = true) (e2 : ks.map (·.2) = ps.map (fun p => [p.1, p.2]))
    (hL : ∀ q ∈ L, q ∈ ks) (hall : ∀ q ∈ ks, q.2 ∈ L.map (·.2)) (hk : ∀ q ∈ ks, ∃ a b, q.2 = [a, b] ∧ Rep T H U m (.tup [.int a, .int b]) (.ref q.1)) (nd : (L.map (·.2)).Nodup) (pw : L.Pairwise fun q r => TS.code 64 q.2 ≤ TS.code 64 r.2) :
    Reps T H U m ((ssP ps).map fun p => .tup [.int p.1, .int p.2]) (L.map fun q => V.ref q.1) := by
  have hp : ∀ q ∈ ks, ∃ p ∈ ps, q.2 = [p.1, p.2] := fun q hq => by
    have : q.2 ∈ ks.map (·.2) := List.mem_map.mpr ⟨q, hq, rfl⟩
    rw [e2] at this
    obtain ⟨p, hp, e⟩ := List.mem_map.mp this
    exact ⟨p, hp, e.symm⟩
  have key : ∀ L2 : List (Addr × List Int), (∀ q ∈ L2, q ∈ L) → ∃ zs : List (Int × Int), L2.map (·.2) = zs.map (fun p => [p.1, p.2]) ∧ (∀ z ∈ zs, z ∈ ps) ∧ Reps T H U m (zs.map fun p => .tup [.int p.1, .int p.2]) (L2.map fun q => V.ref q.1) := fun L2 => by
    induction L2 with
    | nil => intro _; exact ⟨[], rfl, fun _ z => (by cases z), .nil⟩
    | cons q L2 ih =>
      intro h
      obtain ⟨zs, z1, z2, z3⟩ := ih fun r hr => h r (List.mem_cons_of_mem _ hr)
      have hq := hL q (h q (List.mem_cons_self ..))
      obtain ⟨p, hp, e⟩ := hp q hq
      obtain ⟨a, b, e3, rr⟩ := hk q hq
      rw [e] at e3
      injection e3 with e4 e5
      injection e5 with e5 _
      subst e4; subst e5
      exact ⟨p :: zs, by simp [z1, e], fun z hz => by
        rcases List.mem_cons.mp hz with rfl | w
        · exact hp
        · exact z2 z w, .cons rr z3⟩
  obtain ⟨zs, z1, z2, z3⟩ := key L fun _ h => h
  have ez : zs = ssP ps := by
    refine srtP_eq ?_ (ssP_srt hs) fun x => ?_
    · have h1 : List.Pairwise (fun q r : List Int => TS.code 64 q ≤ TS.code 64 r ∧ q ≠ r) (L.map (·.2)) := by
        rw [List.pairwise_map]
        rw [List.Nodup, List.pairwise_map] at nd
        exact pw.and nd
      rw [z1, List.pairwise_map] at h1
      refine h1.imp_of_mem fun {a b} ha hb h => ?_
      have := h.1
      rw [code_pair, code_pair] at this
      have hne : cdP a ≠ cdP b := fun z => h.2 (by rw [cdP_inj (hs a (z2 a ha)) (hs b (z2 b hb)) z])
      unfold cdP at *
      omega
    · rw [ssP_mem]
      constructor
      · exact z2 x
      · intro hx
        have : [x.1, x.2] ∈ ks.map (·.2) := by rw [e2]; exact List.mem_map.mpr ⟨x, hx, rfl⟩
        obtain ⟨q, hq, eq⟩ := List.mem_map.mp this
        have h3 := hall q hq
        rw [z1] at h3
        obtain ⟨y, hy, ey⟩ := List.mem_map.mp h3
        rw [eq] at ey
        injection ey with e4 e5
        injection e5 with e5 _
        rw [show x = y from Prod.ext e4.symm e5.symm]; exact hy
  rw [← ez]; exact z3
theorem cn_sset (hgS : Gl X "sorted") (hmS : X.mg "sorted" = none) (hg : Gl X "set") (hm : X.mg "set" = none) (ha : CE T X e me)
    (he : starEach [e] X.env = (false, eval e X.env) :: starEach [] X.env := by rfl) (hpl : (backTo pos2 (starEach [] X.env)).any (·.1) = false := by rfl)
    (he2 : starEach [Expr.Call (.Name "set" p2) [e] [] pos2] X.env = (false, eval (Expr.Call (.Name "set" p2) [e] [] pos2) X.env) :: starEach [] X.env := by rfl) (hpl2 : (backTo pos (starEach [] X.env)).any (·.1) = false := by rfl) :
    CN T X (.Call (.Name "sorted" p) [.Call (.Name "set" p2) [e] [] pos2] [] pos) (eCallN gSS [me]) := fun ok W tk =>
  pe_imp (pe_callB (cr_sortedT ok.calm) hgS hmS (by decide +kernel) (pa_cons (pe_callTy (cr_setB ok.calm (by have := ok.un; omega)) hg hm (by decide +kernel) (ca_cons ha ca_nil he ok W tk) (by decide) (by decide) he hpl) pa_nil he2) (by decide) (by decide) he2 hpl2) fun σ H Q q => by
    obtain ⟨U, m, r, h, hr, er, o⟩ := q
    have o' : Out T H U m W ((eArgs [me] r h).bind fun vs h1 => lift (gSS h1 vs) h1) (fun vs h' H' U' m' => ∀ p xs, H' p = none → Reps T H' U' m' vs xs → vs.length ≤ sizeLine → Q (.ref p) (upd H' p (.lst xs))) := by
      cases e1 : eCallN gSS [me] r h with
      | ok vs h1 =>
        rw [e1] at o
        show Out T H U m W (eCallN gSS [me] r h) _
        rw [e1]
        exact fun H1 U1 m1 g hr1 p xs hp rx hz => o _ U1 m1 p xs (NL.of hr hr1 g hp rx hz)
      | exc _ _ =>
        rw [e1] at o
        show Out T H U m W (eCallN gSS [me] r h) _
        rw [e1]; exact o
      | stuck => rw [e1] at o; exact (show False from o).elim
    refine tA_then hr er o' fun xs H1 U1 m1 h1 vs _ g1 hr1 er1 rxs o1 => ?_
    obtain ⟨z, ez⟩ := Out.lift_some o1
    rw [ez] at o1
    unfold gSS at ez
    split at ez
    · rename_i x0
      obtain ⟨y, rfl, r1⟩ := one_reps rxs
      have fin : ∀ (l : Addr) (ys : List V) (ws : List Val), y = .ref l → (SqL T.K H1 l ys ∨ SqT T.K H1 l ys) → Reps T H1 U1 m1 ws ys → setOut ws = some z → rSetB X.K X.prog X.w [y] H1 fun x H2 => rSortedT X.K X.prog X.w [x] H2 Q := fun l ys ws el sl rr ew => by
        unfold setOut at ew
        cases eb : prsV ws with
        | none => rw [eb] at ew; cases ew
        | some ps =>
          rw [eb] at ew
          simp only [Option.bind_some] at ew
          split at ew
          · rename_i c
            simp only [Bool.and_eq_true, decide_eq_true_eq, List.all_eq_true] at c
            cases ew
            obtain ⟨ks, e1, e2, e3⟩ := prs_reps rr eb
            have hlen : ks.length = ps.length := by have := congrArg List.length e2; simpa using this
            refine ⟨l, ks, by rw [el], by rw [ok.k, ← e1]; exact sl, fun q hq => by rw [ok.k]; exact (e3 q hq).1, by omega, fun a L hn hL hall => ?_⟩
            have ex : Ext H1 (upd H1 a (SetTO X.prog X.w a L)) := ext_upd hn
            refine ⟨a, L, 2, 64, rfl, by simp [upd], fun q hq => by rw [ok.k]; exact (e3 q (hL q hq)).1.ext ex, by decide, fun q hq => ?_, fun L' p' pm nd few pw hp' => ?_⟩
            · have : q.2 ∈ ks.map (·.2) := List.mem_map.mpr ⟨q, hL q hq, rfl⟩
              rw [e2] at this
              obtain ⟨pp, hpp, epp⟩ := List.mem_map.mp this
              have hs := c.2 pp hpp
              simp only [smP, Bool.and_eq_true, decide_eq_true_eq] at hs
              rw [← epp]
              refine ⟨rfl, fun x hx => ?_⟩
              simp only [List.mem_cons, List.not_mem_nil, or_false] at hx
              rcases hx with rfl | rfl <;> omega
            · have hk : ∀ q ∈ ks, ∃ a' b', q.2 = [a', b'] ∧ Rep T (upd H1 a (SetTO X.prog X.w a L)) U1 m1 (.tup [.int a', .int b']) (.ref q.1) := fun q hq => by
                obtain ⟨a', b', q1, q2⟩ := (e3 q hq).2
                exact ⟨a', b', q1, hr1.rep_ext ex q2⟩
              have rz := out_reps (T := T) (H := upd H1 a (SetTO X.prog X.w a L)) (U := U1) (m := m1) c.2 e2 (fun q hq => hL q (pm.mem_iff.mp hq)) (fun q hq => (pm.map (·.2)).mem_iff.mpr (hall q hq)) hk nd pw
              refine o1 _ U1 m1 (Gr.of_ext ex) (hr1.ext ex) p' _ hp' rz ?_
              have := rz.length
              rw [this, List.length_map, sizeLine_eq]; omega
          · cases ew
      split at ez
      · rename_i ws ey
        obtain ⟨l, ys, el, s1, rr, hz⟩ := view_lst hr1 r1 ey
        exact fin l ys ws el (.inl (.of s1)) rr ez
      · rename_i ws ey
        obtain ⟨l, ys, el, s1, rr, hz⟩ := view_tup r1 ey
        exact fin l ys ws el (.inr s1.t) rr ez
      · cases ez
    · cases ez
end
end SW

namespace SW
open PySem

/-! ### runs, by simp -/
theorem bind_ite {α β : Type} {c : Prop} [Decidable c] (a b : Res α) (f : α → SM β) : (if c then a else b).bind f = if c then a.bind f else b.bind f := by split <;> rfl
/-- so that simp keeps the proof -/
theorem hide {α : Sort _} {a b : α} (h : a = b) : a = b := h
def fin (r : Res Fl) : Res Val := r.bind fun f h1 => match f with
  | .nx _ => .ok .non h1
  | .rt v => .ok v h1
  | _ => .stuck
theorem defRun_eq (n : Nat) (ms : Stm) (vs : List Val) (h : PH) : defRun n ms vs h = fin (ms (vs.map some ++ List.replicate (n - vs.length) none) h) := rfl
section
variable {α β : Type} {r : Ev} {h : PH}
@[simp] theorem x_bok (a : α) (f : α → SM β) : (Res.ok a h).bind f = f a h := hide rfl
@[simp] theorem x_bex (e : Val) (f : α → SM β) : (Res.exc e h : Res α).bind f = .exc e h := hide rfl
@[simp] theorem x_bst (f : α → SM β) : (Res.stuck : Res α).bind f = .stuck := hide rfl
@[simp] theorem x_nok (a : α) : (Res.ok a h).noexc = .ok a h := hide rfl
@[simp] theorem x_lift (a : α) : lift (some a) h = .ok a h := hide rfl
@[simp] theorem x_var (i : Nat) : eVar i r h = lift (r.getD i none) h := hide rfl
@[simp] theorem x_c (v : Val) : eC v r h = .ok v h := hide rfl
@[simp] theorem x_bin (g : PH → Val → Val → Option Val) (a b : Ex) : eBin g a b r h = (a r h).bind fun x h1 => (b r h1).bind fun y h2 => lift (g h2 x y) h2 := hide rfl
@[simp] theorem x_un (g : PH → Val → Option Val) (a : Ex) : eUn g a r h = (a r h).bind fun x h1 => lift (g h1 x) h1 := hide rfl
@[simp] theorem x_args0 : eArgs [] r h = .ok [] h := hide rfl
@[simp] theorem x_args1 (e : Ex) (es : List Ex) : eArgs (e :: es) r h = (e r h).bind fun v h1 => (eArgs es r h1).bind fun vs h2 => .ok (v :: vs) h2 := hide rfl
@[simp] theorem x_tup (ms : List Ex) : eTup ms r h = (eArgs ms r h).bind fun vs h1 => .ok (.tup vs) h1 := hide rfl
@[simp] theorem x_frz (mn : Ev → SM (List Val)) : eFrz mn r h = (mn r h).bind fun vs h1 => .ok (.lst vs) h1 := hide rfl
@[simp] theorem x_loc (mn : Ev → SM (List Val)) : eLoc mn r h = (mn r h).bind fun vs h1 => .ok (.ref h1.length) (h1 ++ [.lst vs]) := hide rfl
@[simp] theorem x_and (a b : Ex) : eAnd a b r h = (a r h).bind fun x h1 => match x with | .bl true => b r h1 | .bl false => .ok (.bl false) h1 | _ => .stuck := hide rfl
@[simp] theorem x_or (a b : Ex) : eOr a b r h = (a r h).bind fun x h1 => match x with | .bl true => .ok (.bl true) h1 | .bl false => b r h1 | _ => .stuck := hide rfl
@[simp] theorem x_not (a : Ex) : eNot a r h = (a r h).bind fun x h1 => match x with | .bl b => .ok (.bl (!b)) h1 | _ => .stuck := hide rfl
@[simp] theorem x_if (c a b : Ex) : eIf c a b r h = ((c r h).bind truthM).bind fun k h1 => if k then a r h1 else b r h1 := hide rfl
@[simp] theorem x_chain (g g' : PH → Val → Val → Option Val) (a b c : Ex) : eChain g g' a b c r h = (a r h).bind fun x h1 => (b r h1).bind fun y h2 => (lift (g h2 x y) h2).bind fun z h3 => match z with
  | .bl true => (c r h3).bind fun w h4 => lift (g' h4 y w) h4
  | .bl false => .ok (.bl false) h3
  | _ => .stuck := hide rfl
@[simp] theorem x_kand (a b : Ex) : kAnd a b r h = ((a r h).bind truthM).bind fun k h1 => if k then b r h1 else .ok (.bl false) h1 := hide rfl
@[simp] theorem x_kor (a b : Ex) : kOr a b r h = ((a r h).bind truthM).bind fun k h1 => if k then .ok (.bl true) h1 else b r h1 := hide rfl
@[simp] theorem x_knot (a : Ex) : kNot a r h = ((a r h).bind truthM).bind fun k h1 => .ok (.bl (!k)) h1 := hide rfl
@[simp] theorem x_truthM (b : Bool) : truthM (.bl b) h = .ok b h := hide rfl
@[simp] theorem x_call (g : PH → List Val → Option Val) (ms : List Ex) : eCall g ms r h = (eArgs ms r h).bind fun vs h1 => lift (g h1 vs) h1 := hide rfl
@[simp] theorem x_callN (g : PH → List Val → Option (List Val)) (ms : List Ex) : eCallN g ms r h = (eArgs ms r h).bind fun vs h1 => lift (g h1 vs) h1 := hide rfl
@[simp] theorem x_callD (d : Dm) (ms : List Ex) : eCallD d ms r h = (eArgs ms r h).bind fun vs h1 => d vs h1 := hide rfl
@[simp] theorem x_callP (d : Dm) (ms : List Ex) : eCallP d ms r h = (eArgs ms r h).bind fun vs h1 => apart d vs h1 := hide rfl
@[simp] theorem x_callS (d : Dm) (ms : List Ex) : eCallS d ms r h = (eArgs ms r h).bind fun vs h1 => still d vs h1 := hide rfl
@[simp] theorem x_callNP (d : Dm) (ms : List Ex) : eCallNP d ms r h = (eArgs ms r h).bind fun vs h1 => apartN d vs h1 := hide rfl
@[simp] theorem x_slc {α : Type} (g : PH → Val → Option Int → Option Int → Option α) (a : Ex) (lo hi : Option Ex) : eSlc g a lo hi r h = (a r h).bind fun x h1 => (ePart lo r h1).bind fun l h2 => (ePart hi r h2).bind fun u h3 => lift (g h3 x l u) h3 := hide rfl
@[simp] theorem x_part0 : ePart none r h = .ok none h := hide rfl
@[simp] theorem x_part1 (e : Ex) : ePart (some e) r h = (e r h).bind fun v h1 => lift (match v with | .int i => some (some i) | _ => none) h1 := hide rfl
@[simp] theorem x_snil : sNil r h = .ok (.nx r) h := hide rfl
@[simp] theorem x_sseq (a b : Stm) : sSeq a b r h = (a r h).bind fun f h1 => match f with | .nx r1 => b r1 h1 | f => .ok f h1 := hide rfl
@[simp] theorem x_sexpr (e : Ex) : sExpr e r h = (e r h).bind fun _ h1 => .ok (.nx r) h1 := hide rfl
@[simp] theorem x_sret (e : Ex) : sRet e r h = (e r h).bind fun v h1 => .ok (.rt v) h1 := hide rfl
@[simp] theorem x_sretN : sRetN r h = .ok (.rt .non) h := hide rfl
@[simp] theorem x_sif (c : Ex) (a b : Stm) : sIf c a b r h = ((c r h).bind truthM).bind fun k h1 => if k then a r h1 else b r h1 := hide rfl
@[simp] theorem x_sasg (e : Ex) (g : TGm) : sAsg e g r h = (e r h).bind fun v h1 => (g v r h1).bind fun r1 h2 => .ok (.nx r1) h2 := hide rfl
@[simp] theorem x_gset (i : Nat) (v : Val) : gSet i v r h = .ok (r.set i (some v)) h := hide rfl
@[simp] theorem x_gnil : gsNil [] r h = .ok r h := hide rfl
@[simp] theorem x_gcons (g : TGm) (gs : TGsm) (v : Val) (vs : List Val) : gsCons g gs (v :: vs) r h = (g v r h).bind fun r1 h1 => gs vs r1 h1 := hide rfl
@[simp] theorem x_gunp (n : Nat) (gs : TGsm) (xs : List Val) : gUnp n gs (.tup xs) r h = if xs.length = n then gs xs r h else .stuck := hide rfl
@[simp] theorem x_gunpE (n : Nat) (gs : TGsm) (xs : List Val) : gUnp n gs (.ins 1 xs) r h = if xs.length = n then gs xs r h else .stuck := hide rfl
@[simp] theorem x_spar (i j : Nat) (ms : List Ex) : sPar i j ms r h = (eArgs ms r h).bind fun vs h1 => match vs with | [v, w] => .ok (.nx ((r.set i (some v)).set j (some w))) h1 | _ => .stuck := hide rfl
@[simp] theorem x_spar3 (i j l : Nat) (ms : List Ex) : sPar3 i j l ms r h = (eArgs ms r h).bind fun vs h1 => match vs with | [u, v, w] => .ok (.nx (((r.set i (some u)).set j (some v)).set l (some w))) h1 | _ => .stuck := hide rfl
@[simp] theorem x_sfor (ms : Ev → SM Src) (g : TGm) (b : Stm) : sFor ms g b r h = (ms r h).bind fun src h1 => forLoop src g b src.n 0 r h1 := hide rfl
@[simp] theorem x_seq1 (k : Val → SM Src) (me : Ex) : sSeq1 k me r h = (me r h).bind k := hide rfl
@[simp] theorem x_srng (ms : List Ex) : sRng ms r h = (eArgs ms r h).bind srcR := hide rfl
@[simp] theorem x_szip (ms : List Ex) : sZip ms r h = (eArgs ms r h).bind fun vs h1 => match vs with | [v, w] => srcZip v w h1 | _ => .stuck := hide rfl
@[simp] theorem x_comp (ms : Ev → SM Src) (g : TGm) (mt : Option Ex) (elt : Ex) (own : List Nat) : eComp ms g mt elt own r h = (ms r h).bind fun src h1 => compLoop src g mt (eOne elt) own src.n 0 r h1 := hide rfl
@[simp] theorem x_comp2 (ms : Ev → SM Src) (g : TGm) (mt : Option Ex) (ms1 : Ev → SM Src) (g1 : TGm) (mt1 : Option Ex) (elt : Ex) (own own1 : List Nat) : eComp2 ms g mt ms1 g1 mt1 elt own own1 r h =
  (ms r h).bind fun src h1 => (compLoop src g mt (eIn ms1 g1 mt1 elt own1) own src.n 0 r h1).bind fun vs h2 => if vs.length ≤ big then .ok vs h2 else .stuck := hide rfl
@[simp] theorem x_in (ms1 : Ev → SM Src) (g1 : TGm) (mt1 : Option Ex) (elt : Ex) (own1 : List Nat) : eIn ms1 g1 mt1 elt own1 r h = (ms1 r h).bind fun src h1 => compLoop src g1 mt1 (eOne elt) own1 src.n 0 r h1 := hide rfl
@[simp] theorem x_one (e : Ex) : eOne e r h = (e r h).bind fun v h1 => .ok [v] h1 := hide rfl
@[simp] theorem x_test0 : eTest none r h = .ok true h := hide rfl
@[simp] theorem x_test1 (e : Ex) : eTest (some e) r h = (e r h).bind truthM := hide rfl
@[simp] theorem x_wipe0 : wipeE r [] = r := hide rfl
@[simp] theorem x_wipe1 (v : Nat) (vs : List Nat) : wipeE r (v :: vs) = (wipeE r vs).set v none := hide rfl
@[simp] theorem x_finr (v : Val) : fin (.ok (.rt v) h) = .ok v h := hide rfl
@[simp] theorem x_finn : fin (.ok (.nx r) h) = .ok .non h := hide rfl
@[simp] theorem x_gstore (o i : Ex) (v : Val) : gStore o i v r h = (o r h).bind fun x h1 => (i r h1).bind fun y h2 => match gPut h2 x y v with | some h3 => .ok r h3 | none => .stuck := hide rfl
@[simp] theorem x_met (g : PH → List Val → List Val → Option (List Val × Val)) (o : Ex) (ms : List Ex) : eMet g o ms r h = (o r h).bind fun x h1 => match x with
  | .ref l => (match h1[l]? with
    | some (.lst _) => (eArgs ms r h1).bind fun vs h2 => (match h2[l]? with
      | some (.lst xs) => (match g h2 xs vs with
        | some (ys, z) => .ok z (h2.set l (.lst ys))
        | none => .stuck)
      | _ => .stuck)
    | _ => .stuck)
  | _ => .stuck := hide rfl
@[simp] theorem x_move (i : Nat) : eMove i r h = match r.getD i none with
  | some (.ref l) => (match h[l]? with | some (.lst xs) => .ok (.lst xs) (h.set l .non) | _ => .stuck)
  | some v => .ok v h
  | none => .stuck := hide rfl
end

/-! ### operations -/
@[simp] theorem pow_1018 {h : PH} : gPow h (.int 10) (.int 18) = some (.int 1000000000000000000) := by simp [gPow, fac]
@[simp] theorem putk {h : PH} {l : Nat} {xs : List Val} {k : Int} {v : Val} (e : h[l]? = some (.lst xs)) : gPut h (.ref l) (.int k) v = (L2.ixN xs.length k).map fun j => h.set l (.lst (xs.set j v)) := by simp [gPut, e]

section
variable {h : PH} {i j : Int} {xs ys : List Val} {a b : Bool}
@[simp] theorem view_int : view h (.int i) = .int i := hide rfl
@[simp] theorem view_bl : view h (.bl a) = .bl a := hide rfl
@[simp] theorem view_non : view h .non = .non := hide rfl
@[simp] theorem view_tup' : view h (.tup xs) = .tup xs := hide rfl
@[simp] theorem view_lst' : view h (.lst xs) = .lst xs := hide rfl
@[simp] theorem view_dct' {ks : List Val} : view h (.dct ks xs) = .dct ks xs := hide rfl
@[simp] theorem add_ii : gAdd h (.int i) (.int j) = some (.int (i + j)) := hide rfl
@[simp] theorem sub_ii : gSub h (.int i) (.int j) = some (.int (i - j)) := hide rfl
@[simp] theorem neg_i : gNeg h (.int i) = some (.int (-i)) := hide rfl
theorem mul_l (hi : fac i = true) : gMul h (.int i) (.int j) = some (.int (i * j)) := by simp [gMul, hi]
theorem mul_r (hi : fac j = true) : gMul h (.int i) (.int j) = some (.int (i * j)) := by simp [gMul, hi]
theorem div_ii (h1 : 0 < j) (h2 : j < 1073741824) : gDiv h (.int i) (.int j) = some (.int (i / j)) := by simp [gDiv, h1, h2]
theorem mod_ii (h1 : 0 < j) : gMod h (.int i) (.int j) = some (.int (i % j)) := by simp [gMod, h1]
@[simp] theorem eq_ii : gEq h (.int i) (.int j) = some (.bl (decide (i = j))) := by simp only [gEq, dd, view_int, dat, veq, Bool.and_self, if_true]; rfl
@[simp] theorem ne_ii : gNe h (.int i) (.int j) = some (.bl (!decide (i = j))) := by simp only [gNe, dd, view_int, dat, veq, Bool.and_self, if_true]; rfl
@[simp] theorem lt_ii : gLt h (.int i) (.int j) = some (.bl (decide (i < j))) := by simp [gLt, ord, dat, valike, nonB, vlt]
@[simp] theorem gt_ii : gGt h (.int i) (.int j) = some (.bl (decide (j < i))) := by simp [gGt, ord, dat, valike, nonB, vlt]
@[simp] theorem le_ii : gLe h (.int i) (.int j) = some (.bl (decide (i ≤ j))) := by
  simp only [gLe, ord, view_int, dat, valike, nonB, vlt, Bool.and_self, Bool.not_false, if_true, Option.some.injEq, Val.bl.injEq]
  by_cases q : i ≤ j <;> simp [q] <;> omega
@[simp] theorem ge_ii : gGe h (.int i) (.int j) = some (.bl (decide (j ≤ i))) := by
  simp only [gGe, ord, view_int, dat, valike, nonB, vlt, Bool.and_self, Bool.not_false, if_true, Option.some.injEq, Val.bl.injEq]
  by_cases q : j ≤ i <;> simp [q] <;> omega
@[simp] theorem eq_bb : gEq h (.bl a) (.bl b) = some (.bl (a == b)) := by simp [gEq, dd, dat, veq]
@[simp] theorem ne_bb : gNe h (.bl a) (.bl b) = some (.bl (!(a == b))) := by simp [gNe, dd, dat, veq]
@[simp] theorem is_int : gIs h (.int i) .non = some (.bl false) := hide rfl
@[simp] theorem is_non : gIs h .non .non = some (.bl true) := hide rfl
@[simp] theorem is_bl : gIs h (.bl a) .non = some (.bl false) := hide rfl
@[simp] theorem is_tup : gIs h (.tup xs) .non = some (.bl false) := hide rfl
@[simp] theorem is_lst : gIs h (.lst xs) .non = some (.bl false) := hide rfl
@[simp] theorem isnot_int : gIsNot h (.int i) .non = some (.bl true) := hide rfl
@[simp] theorem isnot_non : gIsNot h .non .non = some (.bl false) := hide rfl
@[simp] theorem isnot_tup : gIsNot h (.tup xs) .non = some (.bl true) := hide rfl
@[simp] theorem isnot_lst : gIsNot h (.lst xs) .non = some (.bl true) := hide rfl
@[simp] theorem ix_tup : gIx h (.tup xs) (.int i) = L2.atI xs i := hide rfl
@[simp] theorem ix_lst : gIx h (.lst xs) (.int i) = L2.atI xs i := hide rfl
@[simp] theorem int_i : gInt h [.int i] = some (.int i) := hide rfl
@[simp] theorem int_b : gInt h [.bl a] = some (.int (if a then 1 else 0)) := hide rfl
@[simp] theorem abs_i : gAbs h [.int i] = some (.int (if i < 0 then -i else i)) := hide rfl
@[simp] theorem len_tup : gLen h [.tup xs] = some (.int xs.length) := hide rfl
@[simp] theorem len_lst : gLen h [.lst xs] = some (.int xs.length) := hide rfl
@[simp] theorem tuple_lst : gTuple h [.lst xs] = some (.tup xs) := hide rfl
@[simp] theorem tuple_tup : gTuple h [.tup xs] = some (.tup xs) := hide rfl
@[simp] theorem max_ii : gMax2 h [.int i, .int j] = some (.int (if j > i then j else i)) := hide rfl
@[simp] theorem min_ii : gMin2 h [.int i, .int j] = some (.int (if j < i then j else i)) := hide rfl
end
@[simp] theorem view_str {h : PH} {s : Str} : view h (.str s) = .str s := hide rfl
section
variable {h : PH} {b : Bool} {i : Int} {s : Str} {xs ks : List Val}
@[simp] theorem isi_non_bool : gIsi .bool h .non = some (.bl false) := hide rfl
@[simp] theorem isi_non_int : gIsi .int h .non = some (.bl false) := hide rfl
@[simp] theorem isi_non_str : gIsi .str h .non = some (.bl false) := hide rfl
@[simp] theorem isi_non_tup : gIsi .tup h .non = some (.bl false) := hide rfl
@[simp] theorem isi_non_lst : gIsi .lst h .non = some (.bl false) := hide rfl
@[simp] theorem isi_non_dct : gIsi .dct h .non = some (.bl false) := hide rfl
@[simp] theorem isi2_non_tup_lst : gIsi2 .tup .lst h .non = some (.bl false) := hide rfl
@[simp] theorem isi2_non_lst_tup : gIsi2 .lst .tup h .non = some (.bl false) := hide rfl
@[simp] theorem isi2_non_int_str : gIsi2 .int .str h .non = some (.bl false) := hide rfl
@[simp] theorem isi2_non_str_int : gIsi2 .str .int h .non = some (.bl false) := hide rfl
@[simp] theorem isi_bl_bool : gIsi .bool h (.bl b) = some (.bl true) := hide rfl
@[simp] theorem isi_bl_int : gIsi .int h (.bl b) = some (.bl true) := hide rfl
@[simp] theorem isi_bl_str : gIsi .str h (.bl b) = some (.bl false) := hide rfl
@[simp] theorem isi_bl_tup : gIsi .tup h (.bl b) = some (.bl false) := hide rfl
@[simp] theorem isi_bl_lst : gIsi .lst h (.bl b) = some (.bl false) := hide rfl
@[simp] theorem isi_bl_dct : gIsi .dct h (.bl b) = some (.bl false) := hide rfl
@[simp] theorem isi2_bl_tup_lst : gIsi2 .tup .lst h (.bl b) = some (.bl false) := hide rfl
@[simp] theorem isi2_bl_lst_tup : gIsi2 .lst .tup h (.bl b) = some (.bl false) := hide rfl
@[simp] theorem isi2_bl_int_str : gIsi2 .int .str h (.bl b) = some (.bl true) := hide rfl
@[simp] theorem isi2_bl_str_int : gIsi2 .str .int h (.bl b) = some (.bl true) := hide rfl
@[simp] theorem isi_int_bool : gIsi .bool h (.int i) = some (.bl false) := hide rfl
@[simp] theorem isi_int_int : gIsi .int h (.int i) = some (.bl true) := hide rfl
@[simp] theorem isi_int_str : gIsi .str h (.int i) = some (.bl false) := hide rfl
@[simp] theorem isi_int_tup : gIsi .tup h (.int i) = some (.bl false) := hide rfl
@[simp] theorem isi_int_lst : gIsi .lst h (.int i) = some (.bl false) := hide rfl
@[simp] theorem isi_int_dct : gIsi .dct h (.int i) = some (.bl false) := hide rfl
@[simp] theorem isi2_int_tup_lst : gIsi2 .tup .lst h (.int i) = some (.bl false) := hide rfl
@[simp] theorem isi2_int_lst_tup : gIsi2 .lst .tup h (.int i) = some (.bl false) := hide rfl
@[simp] theorem isi2_int_int_str : gIsi2 .int .str h (.int i) = some (.bl true) := hide rfl
@[simp] theorem isi2_int_str_int : gIsi2 .str .int h (.int i) = some (.bl true) := hide rfl
@[simp] theorem isi_str_bool : gIsi .bool h (.str s) = some (.bl false) := hide rfl
@[simp] theorem isi_str_int : gIsi .int h (.str s) = some (.bl false) := hide rfl
@[simp] theorem isi_str_str : gIsi .str h (.str s) = some (.bl true) := hide rfl
@[simp] theorem isi_str_tup : gIsi .tup h (.str s) = some (.bl false) := hide rfl
@[simp] theorem isi_str_lst : gIsi .lst h (.str s) = some (.bl false) := hide rfl
@[simp] theorem isi_str_dct : gIsi .dct h (.str s) = some (.bl false) := hide rfl
@[simp] theorem isi2_str_tup_lst : gIsi2 .tup .lst h (.str s) = some (.bl false) := hide rfl
@[simp] theorem isi2_str_lst_tup : gIsi2 .lst .tup h (.str s) = some (.bl false) := hide rfl
@[simp] theorem isi2_str_int_str : gIsi2 .int .str h (.str s) = some (.bl true) := hide rfl
@[simp] theorem isi2_str_str_int : gIsi2 .str .int h (.str s) = some (.bl true) := hide rfl
@[simp] theorem isi_tup_bool : gIsi .bool h (.tup xs) = some (.bl false) := hide rfl
@[simp] theorem isi_tup_int : gIsi .int h (.tup xs) = some (.bl false) := hide rfl
@[simp] theorem isi_tup_str : gIsi .str h (.tup xs) = some (.bl false) := hide rfl
@[simp] theorem isi_tup_tup : gIsi .tup h (.tup xs) = some (.bl true) := hide rfl
@[simp] theorem isi_tup_lst : gIsi .lst h (.tup xs) = some (.bl false) := hide rfl
@[simp] theorem isi_tup_dct : gIsi .dct h (.tup xs) = some (.bl false) := hide rfl
@[simp] theorem isi2_tup_tup_lst : gIsi2 .tup .lst h (.tup xs) = some (.bl true) := hide rfl
@[simp] theorem isi2_tup_lst_tup : gIsi2 .lst .tup h (.tup xs) = some (.bl true) := hide rfl
@[simp] theorem isi2_tup_int_str : gIsi2 .int .str h (.tup xs) = some (.bl false) := hide rfl
@[simp] theorem isi2_tup_str_int : gIsi2 .str .int h (.tup xs) = some (.bl false) := hide rfl
@[simp] theorem isi_lst_bool : gIsi .bool h (.lst xs) = some (.bl false) := hide rfl
@[simp] theorem isi_lst_int : gIsi .int h (.lst xs) = some (.bl false) := hide rfl
@[simp] theorem isi_lst_str : gIsi .str h (.lst xs) = some (.bl false) := hide rfl
@[simp] theorem isi_lst_tup : gIsi .tup h (.lst xs) = some (.bl false) := hide rfl
@[simp] theorem isi_lst_lst : gIsi .lst h (.lst xs) = some (.bl true) := hide rfl
@[simp] theorem isi_lst_dct : gIsi .dct h (.lst xs) = some (.bl false) := hide rfl
@[simp] theorem isi2_lst_tup_lst : gIsi2 .tup .lst h (.lst xs) = some (.bl true) := hide rfl
@[simp] theorem isi2_lst_lst_tup : gIsi2 .lst .tup h (.lst xs) = some (.bl true) := hide rfl
@[simp] theorem isi2_lst_int_str : gIsi2 .int .str h (.lst xs) = some (.bl false) := hide rfl
@[simp] theorem isi2_lst_str_int : gIsi2 .str .int h (.lst xs) = some (.bl false) := hide rfl
@[simp] theorem isi_dct_bool : gIsi .bool h (.dct ks xs) = some (.bl false) := hide rfl
@[simp] theorem isi_dct_int : gIsi .int h (.dct ks xs) = some (.bl false) := hide rfl
@[simp] theorem isi_dct_str : gIsi .str h (.dct ks xs) = some (.bl false) := hide rfl
@[simp] theorem isi_dct_tup : gIsi .tup h (.dct ks xs) = some (.bl false) := hide rfl
@[simp] theorem isi_dct_lst : gIsi .lst h (.dct ks xs) = some (.bl false) := hide rfl
@[simp] theorem isi_dct_dct : gIsi .dct h (.dct ks xs) = some (.bl true) := hide rfl
@[simp] theorem isi2_dct_tup_lst : gIsi2 .tup .lst h (.dct ks xs) = some (.bl false) := hide rfl
@[simp] theorem isi2_dct_lst_tup : gIsi2 .lst .tup h (.dct ks xs) = some (.bl false) := hide rfl
@[simp] theorem isi2_dct_int_str : gIsi2 .int .str h (.dct ks xs) = some (.bl false) := hide rfl
@[simp] theorem isi2_dct_str_int : gIsi2 .str .int h (.dct ks xs) = some (.bl false) := hide rfl
@[simp] theorem is_str : gIs h (.str s) .non = some (.bl false) := hide rfl
@[simp] theorem is_dct : gIs h (.dct ks xs) .non = some (.bl false) := hide rfl
@[simp] theorem isnot_str : gIsNot h (.str s) .non = some (.bl true) := hide rfl
@[simp] theorem isnot_bl : gIsNot h (.bl b) .non = some (.bl true) := hide rfl
end
end SW

namespace SW
open PySem

/-! ### a hand that draws -/
def HandOK (v : Val) : Prop := ∃ (cells : List Int) (a b c e : Int), v = .lst [.lst (cells.map .int), .int a, .int b, .int c, .int e] ∧ (∀ x ∈ cells, 0 ≤ x) ∧ 0 ≤ a ∧ 0 ≤ b
theorem fac_mod {x m : Int} (h0 : 0 < m) (h : m < 18446744073709551616) : fac (x % m) = true := by
  have h1 := Int.emod_nonneg x (Int.ne_of_gt h0)
  have h2 := Int.emod_lt_of_pos x h0
  simp only [fac, Bool.and_eq_true, decide_eq_true_eq]
  omega
@[simp] theorem ix_ref {h : PH} {l : Nat} {i : Int} {xs : List Val} (e : h[l]? = some (.lst xs)) : gIx h (.ref l) (.int i) = L2.atI xs i := by simp [gIx, view, e]
theorem atI_nat {α : Type} {xs : List α} {i : Int} (h0 : 0 ≤ i) (h1 : i < xs.length) : L2.atI xs i = xs[i.toNat]? := by
  unfold L2.atI L2.ixN
  rw [if_pos h0, if_pos h1]; rfl
theorem atI0 {α : Type} {x : α} {xs : List α} : L2.atI (x :: xs) 0 = some x := by
  rw [atI_nat (by decide) (by simp <;> omega)]; rfl
theorem atI1 {α : Type} {x y : α} {xs : List α} : L2.atI (x :: y :: xs) 1 = some y := by
  rw [atI_nat (by decide) (by simp <;> omega)]; rfl
theorem atI2 {α : Type} {x y z : α} {xs : List α} : L2.atI (x :: y :: z :: xs) 2 = some z := by
  rw [atI_nat (by decide) (by simp <;> omega)]; rfl
theorem atI3 {α : Type} {x y z u : α} {xs : List α} : L2.atI (x :: y :: z :: u :: xs) 3 = some u := by
  rw [atI_nat (by decide) (by simp <;> omega)]; rfl
theorem atI4 {α : Type} {x y z u v : α} {xs : List α} : L2.atI (x :: y :: z :: u :: v :: xs) 4 = some v := by
  rw [atI_nat (by decide) (by simp <;> omega)]; rfl
theorem ixN_nat {n : Nat} {i : Int} (h0 : 0 ≤ i) (h1 : i < n) : L2.ixN n i = some i.toNat := by
  unfold L2.ixN
  rw [if_pos h0, if_pos h1]

/-! ### loops -/
/-- what src walks at h: its -/
structure Walks (src : Src) (h : PH) (its : List Val) : Prop where
  n : src.n = its.length
  get : ∀ i, i < its.length → src.get h i = its[i]?
  fin : src.fin h = true
theorem walks_seq {v : Val} {xs : List Val} {h : PH} (e : seqAt v h = some xs) : Walks (liveSrc v xs.length fun i ys => ys[i]?) h xs :=
  ⟨rfl, fun i _ => by simp [liveSrc, e], by simp [liveSrc, e]⟩
theorem walks_enum {v : Val} {xs : List Val} {h : PH} (e : seqAt v h = some xs) : Walks (liveSrc v xs.length fun i ys => (ys[i]?).map fun y => .ins 1 [.int i, y]) h (xs.mapIdx fun i y => .ins 1 [.int i, y]) :=
  ⟨by simp [liveSrc], fun i _ => by simp [liveSrc, e], by simp [liveSrc, e]⟩
theorem walks_up {lo : Int} {n : Nat} {h : PH} : Walks (srcUp lo n) h ((List.range n).map fun i => .int (lo + (i : Nat))) :=
  ⟨by simp [srcUp], fun i hi => by simp at hi; simp [srcUp, hi], rfl⟩
theorem walks_down {lo c : Int} {n : Nat} {h : PH} : Walks (srcRng lo c n) h ((List.range n).map fun i => .int (lo + (i : Nat) * c)) :=
  ⟨by simp [srcRng], fun i hi => by simp at hi; simp [srcRng, hi], rfl⟩
theorem walks_rev {v : Val} {xs : List Val} {h : PH} (e : seqAt v h = some xs) : Walks (revSrc v xs.length) h xs.reverse :=
  ⟨by simp [revSrc], fun i hi => by simp at hi; simp [revSrc, e, hi, List.getElem?_reverse], rfl⟩
theorem walks_zip {v w : Val} {xs ys : List Val} {h : PH} (e : seqAt v h = some xs) (e2 : seqAt w h = some ys) : Walks (zipSrc v w (min xs.length ys.length)) h (List.zipWith (fun x y => .ins 1 [x, y]) xs ys) :=
  ⟨by simp [zipSrc], fun i hi => by
    simp at hi
    simp only [zipSrc, e, e2, List.getElem?_zipWith]
    rw [List.getElem?_eq_getElem (by omega), List.getElem?_eq_getElem (by omega)], by
    simp only [zipSrc, e, e2, Bool.or_eq_true, decide_eq_true_eq]; omega⟩
@[simp] theorem seqAt_tup {xs : List Val} {h : PH} : seqAt (.tup xs) h = some xs := hide rfl
@[simp] theorem seqAt_lst {xs : List Val} {h : PH} : seqAt (.lst xs) h = some xs := hide rfl
@[simp] theorem seqAt_scr {xs : List Val} {h : PH} : seqAt (.ins 0 xs) h = some xs := hide rfl
section
variable {src : Src} {g : TGm} {mt : Option Ex} {elt : Ex} {own : List Nat} {r : Ev} {h : PH} {its : List Val}
theorem comp_from {body : Ev → SM (List Val)} {p : Val → Bool} {f : Val → List Val} (w : Walks src h its)
    (step : ∀ x ∈ its, ∃ r1, g x (wipeE r own) h = .ok r1 h ∧ eTest mt r1 h = .ok (p x) h ∧ (p x = true → body r1 h = .ok (f x) h)) : ∀ k i, i + k = its.length → compLoop src g mt body own k i r h = .ok (((its.drop i).filter p).flatMap f) h
  | 0, i, e => by
    unfold compLoop
    rw [w.fin, if_pos rfl, List.drop_eq_nil_of_le (by omega)]; rfl
  | k + 1, i, e => by
    have hi : i < its.length := by omega
    have e1 : src.get h i = some its[i] := by rw [w.get i hi, List.getElem?_eq_getElem hi]
    obtain ⟨r1, s1, s2, s3⟩ := step its[i] (List.getElem_mem hi)
    unfold compLoop
    rw [e1]
    dsimp only
    have ih := comp_from w step k (i + 1) (by omega)
    rw [s1, x_nok, x_bok, s2, x_nok, x_bok, List.drop_eq_getElem_cons hi]
    cases q : p its[i] with
    | true =>
      rw [if_pos rfl, s3 q, x_nok, x_bok, ih, x_bok, List.filter_cons_of_pos q]; rfl
    | false =>
      rw [if_neg Bool.false_ne_true, ih, List.filter_cons_of_neg (by rw [q]; exact Bool.false_ne_true)]
theorem comp_flat {body : Ev → SM (List Val)} {p : Val → Bool} {f : Val → List Val} (w : Walks src h its)
    (step : ∀ x ∈ its, ∃ r1, g x (wipeE r own) h = .ok r1 h ∧ eTest mt r1 h = .ok (p x) h ∧ (p x = true → body r1 h = .ok (f x) h)) : compLoop src g mt body own src.n 0 r h = .ok ((its.filter p).flatMap f) h := by
  rw [w.n, comp_from w step its.length 0 (by omega)]; rfl
theorem flatMap_one {α β : Type} (f : α → β) : ∀ xs : List α, xs.flatMap (fun x => [f x]) = xs.map f
  | [] => rfl
  | x :: xs => by rw [List.flatMap_cons, flatMap_one f xs]; rfl
theorem comp_map {p : Val → Bool} {f : Val → Val} (w : Walks src h its)
    (step : ∀ x ∈ its, ∃ r1, g x (wipeE r own) h = .ok r1 h ∧ eTest mt r1 h = .ok (p x) h ∧ (p x = true → elt r1 h = .ok (f x) h)) : compLoop src g mt (eOne elt) own src.n 0 r h = .ok ((its.filter p).map f) h := by
  have q := comp_flat (mt := mt) (body := eOne elt) (own := own) (g := g) (r := r) (p := p) (f := fun x => [f x]) w fun x hx => by
    obtain ⟨r1, s1, s2, s3⟩ := step x hx
    exact ⟨r1, s1, s2, fun q => by rw [x_one, s3 q, x_bok]⟩
  rw [q, flatMap_one]
/-- no test -/
theorem comp_map0 {f : Val → Val} (w : Walks src h its) (step : ∀ x ∈ its, ∃ r1, g x (wipeE r own) h = .ok r1 h ∧ elt r1 h = .ok (f x) h) : compLoop src g none (eOne elt) own src.n 0 r h = .ok (its.map f) h := by
  have q := comp_map (mt := none) (elt := elt) (own := own) (g := g) (r := r) (p := fun _ => true) (f := f) w fun x hx => by
    obtain ⟨r1, s1, s2⟩ := step x hx
    exact ⟨r1, s1, rfl, fun _ => s2⟩
  rw [q, List.filter_eq_self.mpr (fun _ _ => rfl)]
theorem comp_flat0 {body : Ev → SM (List Val)} {f : Val → List Val} (w : Walks src h its) (step : ∀ x ∈ its, ∃ r1, g x (wipeE r own) h = .ok r1 h ∧ body r1 h = .ok (f x) h) : compLoop src g none body own src.n 0 r h = .ok (its.flatMap f) h := by
  have q := comp_flat (mt := none) (body := body) (own := own) (g := g) (r := r) (p := fun _ => true) (f := f) w fun x hx => by
    obtain ⟨r1, s1, s2⟩ := step x hx
    exact ⟨r1, s1, rfl, fun _ => s2⟩
  rw [q, List.filter_eq_self.mpr (fun _ _ => rfl)]
/-- the elements may change the heap: I i h acc behind i turns -/
theorem comp_st_from {mt : Option Ex} {body : Ev → SM (List Val)} (w : ∀ h, Walks src h its) (I : Nat → PH → List Val → Prop)
    (step : ∀ i x h acc, its[i]? = some x → I i h acc → ∃ r1 h1 b h2, g x (wipeE r own) h = .ok r1 h1 ∧ eTest mt r1 h1 = .ok b h2 ∧ (if b = true then ∃ ys h3, body r1 h2 = .ok ys h3 ∧ I (i + 1) h3 (acc ++ ys) else I (i + 1) h2 acc)) :
    ∀ k i h acc, i + k = its.length → I i h acc → ∃ vs h', compLoop src g mt body own k i r h = .ok vs h' ∧ I its.length h' (acc ++ vs)
  | 0, i, h, acc, e, hI => by
    have : i = its.length := by omega
    subst this
    exact ⟨[], h, by unfold compLoop; rw [(w h).fin, if_pos rfl], by rw [List.append_nil]; exact hI⟩
  | k + 1, i, h, acc, e, hI => by
    have hi : i < its.length := by omega
    have e1 : src.get h i = some its[i] := by rw [(w h).get i hi, List.getElem?_eq_getElem hi]
    obtain ⟨r1, h1, b, h2, s1, s2, s3⟩ := step i its[i] h acc (List.getElem?_eq_getElem hi) hI
    cases b with
    | true =>
      rw [if_pos rfl] at s3
      obtain ⟨ys, h3, s4, s5⟩ := s3
      obtain ⟨vs, h', q1, q2⟩ := comp_st_from w I step k (i + 1) h3 (acc ++ ys) (by omega) s5
      refine ⟨ys ++ vs, h', ?_, by rw [← List.append_assoc]; exact q2⟩
      unfold compLoop
      rw [e1]
      dsimp only
      rw [s1, x_nok, x_bok, s2, x_nok, x_bok, if_pos rfl, s4, x_nok, x_bok, q1, x_bok]
    | false =>
      rw [if_neg Bool.false_ne_true] at s3
      obtain ⟨vs, h', q1, q2⟩ := comp_st_from w I step k (i + 1) h2 acc (by omega) s3
      refine ⟨vs, h', ?_, q2⟩
      unfold compLoop
      rw [e1]
      dsimp only
      rw [s1, x_nok, x_bok, s2, x_nok, x_bok, if_neg Bool.false_ne_true, q1]
theorem comp_st {mt : Option Ex} {body : Ev → SM (List Val)} (w : ∀ h, Walks src h its) (I : Nat → PH → List Val → Prop) (h0 : I 0 h [])
    (step : ∀ i x h acc, its[i]? = some x → I i h acc → ∃ r1 h1 b h2, g x (wipeE r own) h = .ok r1 h1 ∧ eTest mt r1 h1 = .ok b h2 ∧ (if b = true then ∃ ys h3, body r1 h2 = .ok ys h3 ∧ I (i + 1) h3 (acc ++ ys) else I (i + 1) h2 acc)) :
    ∃ vs h', compLoop src g mt body own src.n 0 r h = .ok vs h' ∧ I its.length h' vs := by
  obtain ⟨vs, h', e, q⟩ := comp_st_from w I step its.length 0 h [] (by omega) h0
  exact ⟨vs, h', by rw [(w h).n]; exact e, q⟩
/-- for: I i r h ahead of the turn i -/
theorem for_from {b : Stm} (I : Nat → Ev → PH → Prop) (w : ∀ i r h, I i r h → Walks src h its)
    (step : ∀ i x r h, its[i]? = some x → I i r h → ∃ r' h', ((g x r h).bind fun r1 h1 => b r1 h1) = .ok (.nx r') h' ∧ I (i + 1) r' h' ∨ ((g x r h).bind fun r1 h1 => b r1 h1) = .ok (.ct r') h' ∧ I (i + 1) r' h') :
    ∀ k i r h, i + k = its.length → I i r h → ∃ r' h', forLoop src g b k i r h = .ok (.nx r') h' ∧ I its.length r' h'
  | 0, i, r, h, e, hI => by
    have : i = its.length := by omega
    subst this
    exact ⟨r, h, by unfold forLoop; rw [(w _ _ _ hI).fin, if_pos rfl], hI⟩
  | k + 1, i, r, h, e, hI => by
    have hi : i < its.length := by omega
    have e1 : src.get h i = some its[i] := by rw [(w _ _ _ hI).get i hi, List.getElem?_eq_getElem hi]
    obtain ⟨r1, h1, s⟩ := step i its[i] r h (List.getElem?_eq_getElem hi) hI
    rcases s with ⟨s1, s2⟩ | ⟨s1, s2⟩
    · obtain ⟨r2, h2, q1, q2⟩ := for_from I w step k (i + 1) r1 h1 (by omega) s2
      refine ⟨r2, h2, ?_, q2⟩
      unfold forLoop
      rw [e1]
      dsimp only
      rw [← Res.bind_assoc, s1, x_bok]
      exact q1
    · obtain ⟨r2, h2, q1, q2⟩ := for_from I w step k (i + 1) r1 h1 (by omega) s2
      refine ⟨r2, h2, ?_, q2⟩
      unfold forLoop
      rw [e1]
      dsimp only
      rw [← Res.bind_assoc, s1, x_bok]
      exact q1
theorem for_inv {b : Stm} (I : Nat → Ev → PH → Prop) (w : ∀ i r h, I i r h → Walks src h its) (h0 : I 0 r h)
    (step : ∀ i x r h, its[i]? = some x → I i r h → ∃ r' h', ((g x r h).bind fun r1 h1 => b r1 h1) = .ok (.nx r') h' ∧ I (i + 1) r' h' ∨ ((g x r h).bind fun r1 h1 => b r1 h1) = .ok (.ct r') h' ∧ I (i + 1) r' h') :
    ∃ r' h', forLoop src g b src.n 0 r h = .ok (.nx r') h' ∧ I its.length r' h' := by
  rw [(w _ _ _ h0).n]
  exact for_from I w step its.length 0 r h (by omega) h0
end

/-! ### calls apart -/
theorem ap {d : Dm} {vs : List Val} {v : Val} {h h2 : PH} (e : d vs [] = .ok v h2) (hf : frees vs = true) (hv : free v = true) : apart d vs h = .ok v h := by
  unfold apart
  rw [if_pos hf, e]
  dsimp only
  rw [dvN_free 3 h2 hv]; rfl
theorem st {d : Dm} {vs : List Val} {v : Val} {h h2 : PH} (e : d vs [] = .ok v h2) (hf : frees vs = true) (hv : flat v = true) : still d vs h = .ok v h := by
  unfold still
  rw [dvs0_free _ hf]
  dsimp only
  rw [e]
  dsimp only
  rw [if_pos hv]

/-! ### data equal to itself -/
mutual
theorem veq_refl : ∀ (v : Val) (n : Nat), dat v n = true → veq v v = true
  | .non, _, _ => rfl
  | .bl b, _, _ => by simp [veq]
  | .int i, _, _ => by simp [veq]
  | .str x, _, _ => by simp [veq]
  | .tup xs, n, h => by
    cases n with
    | zero => simp [dat] at h
    | succ n => simp only [veq]; exact veqs_refl xs n (by simpa only [dat] using h)
  | .lst xs, n, h => by
    cases n with
    | zero => simp [dat] at h
    | succ n => simp only [veq]; exact veqs_refl xs n (by simpa only [dat] using h)
  | .dct _ _, _, h => by simp [dat] at h
  | .ins _ _, _, h => by simp [dat] at h
  | .ref _, _, h => by simp [dat] at h
theorem veqs_refl : ∀ (v : List Val) (n : Nat), dats v n = true → veqs v v = true
  | [], _, _ => rfl
  | x :: xs, n, h => by
    simp only [dats, Bool.and_eq_true] at h
    simp only [veqs, veq_refl x n h.1, veqs_refl xs n h.2, Bool.and_self]
end
theorem bls_map {α : Type} (f : α → Bool) : ∀ xs : List α, bls (xs.map fun x => .bl (f x)) = some (xs.map f)
  | [] => rfl
  | x :: xs => by simp [bls, bls_map f xs]
theorem bls_true {vs : List Val} (h : ∀ v ∈ vs, v = .bl true) : ∃ bs, bls vs = some bs ∧ bs.all id = true := by
  induction vs with
  | nil => exact ⟨[], rfl, rfl⟩
  | cons v vs ih =>
    obtain ⟨bs, e, q⟩ := ih fun x hx => h x (List.mem_cons_of_mem _ hx)
    obtain rfl := h v (List.mem_cons_self ..)
    exact ⟨true :: bs, by simp [bls, e], by simpa using q⟩
theorem all_true {vs : List Val} {h : PH} (hv : ∀ v ∈ vs, v = .bl true) : gAll h [.lst vs] = some (.bl true) := by
  obtain ⟨bs, e, q⟩ := bls_true hv
  simp only [gAll, view_lst', e, Option.map_some, q]
end SW

namespace SW
open PySem

/-! ### loops over frozen things, as maps -/
def mapS {α : Type} (f : α → SM (List Val)) : List α → SM (List Val)
  | [] => fun h => .ok [] h
  | x :: xs => fun h => (f x h).bind fun ys h1 => (mapS f xs h1).bind fun zs h2 => .ok (ys ++ zs) h2
def forS {α : Type} (f : α → Ev → SM Fl) : List α → Ev → SM Fl
  | [] => fun r h => .ok (.nx r) h
  | x :: xs => fun r h => (f x r h).bind fun fl h2 => match fl with
      | .nx r2 => forS f xs r2 h2
      | .ct r2 => forS f xs r2 h2
      | .bk r2 => .ok (.nx r2) h2
      | .rt v => .ok (.rt v) h2
theorem mapS_map {α β : Type} (c : α → β) (f : β → SM (List Val)) (h : PH) : ∀ xs : List α, mapS f (xs.map c) h = mapS (fun a => f (c a)) xs h
  | [] => rfl
  | x :: xs => by
    simp only [List.map_cons, mapS]
    congr 1; funext ys h1
    rw [mapS_map c f h1 xs]
theorem forS_map {α β : Type} (c : α → β) (f : β → Ev → SM Fl) : ∀ (xs : List α) (r : Ev) (h : PH), forS f (xs.map c) r h = forS (fun a => f (c a)) xs r h
  | [], _, _ => rfl
  | x :: xs, r, h => by
    simp only [List.map_cons, forS]
    congr 1; funext fl h1
    cases fl <;> first | rfl | exact forS_map c f xs _ _
theorem mapS_congr {α : Type} {xs ys : List α} {f g : α → SM (List Val)} {h : PH} (e : xs = ys) (hf : ∀ x, x ∈ ys → ∀ h', f x h' = g x h') : mapS f xs h = mapS g ys h := by
  subst e
  induction xs generalizing h with
  | nil => rfl
  | cons x xs ih =>
    simp only [mapS]
    rw [hf x (List.mem_cons_self ..)]
    congr 1; funext zs h1
    rw [ih (fun y hy => hf y (List.mem_cons_of_mem _ hy))]
theorem mapS_flat {α : Type} {xs : List α} {f : α → SM (List Val)} {F : α → List Val} {h : PH} (e : ∀ x ∈ xs, f x h = .ok (F x) h) : mapS f xs h = .ok (xs.flatMap F) h := by
  induction xs with
  | nil => rfl
  | cons x xs ih =>
    simp only [mapS]
    rw [e x (List.mem_cons_self ..), x_bok, ih (fun y hy => e y (List.mem_cons_of_mem _ hy)), x_bok]; rfl
theorem mapS_one {α : Type} (xs : List α) (F : α → Val) (h : PH) : mapS (fun x h' => .ok [F x] h') xs h = .ok (xs.map F) h := by
  rw [mapS_flat (F := fun x => [F x]) (fun _ _ => rfl), flatMap_one]
theorem filt_flat {α : Type} (c : α → Prop) [DecidablePred c] (F : α → Val) : ∀ xs : List α, (xs.flatMap fun x => if c x then [F x] else []) = (xs.filter fun x => decide (c x)).map F
  | [] => rfl
  | x :: xs => by
    by_cases q : c x <;> simp [List.flatMap_cons, filt_flat c F xs, q]
theorem mapS_filt {α : Type} (xs : List α) (c : α → Prop) [DecidablePred c] (F : α → Val) (h : PH) : mapS (fun x h' => if c x then .ok [F x] h' else .ok [] h') xs h = .ok ((xs.filter fun x => decide (c x)).map F) h := by
  rw [mapS_flat (F := fun x => if c x then [F x] else []) (fun x _ => by split <;> rfl), filt_flat]
theorem mapS_filtN {α : Type} (xs : List α) (c : α → Prop) [DecidablePred c] (F : α → Val) (h : PH) : mapS (fun x h' => if c x then .ok [] h' else .ok [F x] h') xs h = .ok ((xs.filter fun x => decide (¬ c x)).map F) h := by
  rw [← mapS_filt]
  congr 1; funext x h'
  by_cases q : c x <;> simp [q]
theorem mapS_flatP {α : Type} (xs : List α) (F : α → List Val) (h : PH) : mapS (fun x h' => .ok (F x) h') xs h = .ok (xs.flatMap F) h := mapS_flat fun _ _ => rfl
/-- what a turn of a comprehension does -/
theorem comp_mapS {src : Src} {g : TGm} {mt : Option Ex} {body : Ev → SM (List Val)} {own : List Nat} {r : Ev} {its : List Val} (w : ∀ h, Walks src h its) : ∀ (k i : Nat) (h : PH), i + k = its.length →
    compLoop src g mt body own k i r h = mapS (fun x h' => (g x (wipeE r own) h').noexc.bind fun r1 h1 => (eTest mt r1 h1).noexc.bind fun b h2 => if b then (body r1 h2).noexc else .ok [] h2) (its.drop i) h
  | 0, i, h, e => by
    unfold compLoop
    rw [(w h).fin, if_pos rfl, List.drop_eq_nil_of_le (by omega)]; rfl
  | k + 1, i, h, e => by
    have hi : i < its.length := by omega
    have e1 : src.get h i = some its[i] := by rw [(w h).get i hi, List.getElem?_eq_getElem hi]
    unfold compLoop
    rw [e1, List.drop_eq_getElem_cons hi]
    simp only [mapS]
    have ih := fun h => comp_mapS (g := g) (mt := mt) (body := body) (own := own) (r := r) w k (i + 1) h (by omega)
    cases g its[i] (wipeE r own) h with
    | stuck => rfl
    | exc _ _ => rfl
    | ok r1 h1 =>
      simp only [x_nok, x_bok]
      cases eTest mt r1 h1 with
      | stuck => rfl
      | exc _ _ => rfl
      | ok b h2 =>
        simp only [x_nok, x_bok]
        cases b with
        | true =>
          simp only [if_true]
          cases body r1 h2 with
          | stuck => rfl
          | exc _ _ => rfl
          | ok ys h3 => simp only [x_nok, x_bok, ih]
        | false =>
          simp only [if_neg Bool.false_ne_true, x_bok, ih, List.nil_append]
          cases mapS _ (its.drop (i + 1)) h2 <;> rfl
theorem for_forS {src : Src} {g : TGm} {b : Stm} {its : List Val} (w : ∀ h, Walks src h its) : ∀ (k i : Nat) (r : Ev) (h : PH), i + k = its.length →
    forLoop src g b k i r h = forS (fun x r' h' => (g x r' h').bind fun r1 h1 => b r1 h1) (its.drop i) r h
  | 0, i, r, h, e => by
    unfold forLoop
    rw [(w h).fin, if_pos rfl, List.drop_eq_nil_of_le (by omega)]; rfl
  | k + 1, i, r, h, e => by
    have hi : i < its.length := by omega
    have e1 : src.get h i = some its[i] := by rw [(w h).get i hi, List.getElem?_eq_getElem hi]
    unfold forLoop
    rw [e1, List.drop_eq_getElem_cons hi]
    simp only [forS]
    have ih := fun r h => for_forS (g := g) (b := b) w k (i + 1) r h (by omega)
    cases g its[i] r h with
    | stuck => rfl
    | exc _ _ => rfl
    | ok r1 h1 =>
      simp only [x_bok]
      cases b r1 h1 with
      | stuck => rfl
      | exc _ _ => rfl
      | ok fl h2 =>
        simp only [x_bok]
        cases fl <;> simp only [ih]
/-- the numbers from 0 on -/
def rng (n : Int) : List Int := (List.range n.toNat).map Int.ofNat
def rng2 (i j : Int) : List Int := (List.range (j - i).toNat).map fun k => i + (k : Nat)
theorem mem_rng {n a : Int} : a ∈ rng n ↔ 0 ≤ a ∧ a < n := by
  simp only [rng, List.mem_map, List.mem_range]
  constructor
  · rintro ⟨k, hk, rfl⟩
    have : Int.ofNat k = (k : Int) := rfl
    omega
  · rintro ⟨h0, h1⟩
    exact ⟨a.toNat, by omega, by show ((a.toNat : Nat) : Int) = a; omega⟩
theorem mem_rng2 {i j a : Int} : a ∈ rng2 i j ↔ i ≤ a ∧ a < j := by
  simp only [rng2, List.mem_map, List.mem_range]
  constructor
  · rintro ⟨k, hk, rfl⟩
    omega
  · rintro ⟨h0, h1⟩
    exact ⟨(a - i).toNat, by omega, by omega⟩
section
variable {g : TGm} {mt : Option Ex} {body : Ev → SM (List Val)} {own : List Nat} {r : Ev} {h : PH} {xs ys : List Val} {b : Stm}
@[simp] abbrev turnC (g : TGm) (mt : Option Ex) (body : Ev → SM (List Val)) (r0 : Ev) (x : Val) (h' : PH) : Res (List Val) := (g x r0 h').noexc.bind fun r1 h1 => (eTest mt r1 h1).noexc.bind fun b h2 => if b then (body r1 h2).noexc else .ok [] h2
theorem c_seqT : ((srcSeq (.tup xs) h).bind fun src h1 => compLoop src g mt body own src.n 0 r h1) = mapS (fun x h' => turnC g mt body (wipeE r own) x h') xs h := by
  show compLoop (liveSrc (.tup xs) xs.length fun i ys => ys[i]?) g mt body own xs.length 0 r h = _
  rw [comp_mapS (fun h => walks_seq rfl) xs.length 0 h (by omega)]; rfl
theorem c_seqL : ((srcSeq (.lst xs) h).bind fun src h1 => compLoop src g mt body own src.n 0 r h1) = mapS (fun x h' => turnC g mt body (wipeE r own) x h') xs h := by
  show compLoop (liveSrc (.lst xs) xs.length fun i ys => ys[i]?) g mt body own xs.length 0 r h = _
  rw [comp_mapS (fun h => walks_seq rfl) xs.length 0 h (by omega)]; rfl
theorem c_seqS : ((srcSeq (.ins 0 xs) h).bind fun src h1 => compLoop src g mt body own src.n 0 r h1) = mapS (fun x h' => turnC g mt body (wipeE r own) x h') xs h := by
  show compLoop (liveSrc (.ins 0 xs) xs.length fun i ys => ys[i]?) g mt body own xs.length 0 r h = _
  rw [comp_mapS (fun h => walks_seq rfl) xs.length 0 h (by omega)]; rfl
theorem c_revT : ((srcRev (.tup xs) h).bind fun src h1 => compLoop src g mt body own src.n 0 r h1) = mapS (fun x h' => turnC g mt body (wipeE r own) x h') xs.reverse h := by
  show compLoop (revSrc (.tup xs) xs.length) g mt body own xs.length 0 r h = _
  rw [comp_mapS (fun h => walks_rev rfl) xs.length 0 h (by simp)]; rfl
theorem c_revL : ((srcRev (.lst xs) h).bind fun src h1 => compLoop src g mt body own src.n 0 r h1) = mapS (fun x h' => turnC g mt body (wipeE r own) x h') xs.reverse h := by
  show compLoop (revSrc (.lst xs) xs.length) g mt body own xs.length 0 r h = _
  rw [comp_mapS (fun h => walks_rev rfl) xs.length 0 h (by simp)]; rfl
def pairs (xs : List Val) : List (Int × Val) := (rng xs.length).zip xs
theorem idx_pairs (xs : List Val) : (xs.mapIdx fun i y => Val.ins 1 [.int i, y]) = (pairs xs).map fun p => .ins 1 [.int p.1, p.2] := by
  apply List.ext_getElem
  · simp [pairs, rng]
  · intro i h1 h2
    simp [pairs, rng]
theorem c_enumT : ((srcEnumA (.tup xs) h).bind fun src h1 => compLoop src g mt body own src.n 0 r h1) = mapS (fun x h' => turnC g mt body (wipeE r own) (.ins 1 [.int x.1, x.2]) h') (pairs xs) h := by
  show compLoop (liveSrc (.tup xs) xs.length fun i ys => (ys[i]?).map fun y => .ins 1 [.int i, y]) g mt body own xs.length 0 r h = _
  rw [comp_mapS (fun h => walks_enum rfl) xs.length 0 h (by simp), idx_pairs, List.drop_zero, mapS_map]
theorem c_enumL : ((srcEnumA (.lst xs) h).bind fun src h1 => compLoop src g mt body own src.n 0 r h1) = mapS (fun x h' => turnC g mt body (wipeE r own) (.ins 1 [.int x.1, x.2]) h') (pairs xs) h := by
  show compLoop (liveSrc (.lst xs) xs.length fun i ys => (ys[i]?).map fun y => .ins 1 [.int i, y]) g mt body own xs.length 0 r h = _
  rw [comp_mapS (fun h => walks_enum rfl) xs.length 0 h (by simp), idx_pairs, List.drop_zero, mapS_map]
theorem zip_pairs : ∀ xs ys : List Val, List.zipWith (fun x y => Val.ins 1 [x, y]) xs ys = (xs.zip ys).map fun p => .ins 1 [p.1, p.2]
  | [], _ => by simp
  | _ :: _, [] => by simp
  | x :: xs, y :: ys => by simp [zip_pairs xs ys]
theorem c_zipT : ((srcZip (.tup xs) (.tup ys) h).bind fun src h1 => compLoop src g mt body own src.n 0 r h1) = mapS (fun x h' => turnC g mt body (wipeE r own) (.ins 1 [x.1, x.2]) h') (xs.zip ys) h := by
  show compLoop (zipSrc (.tup xs) (.tup ys) (min xs.length ys.length)) g mt body own (min xs.length ys.length) 0 r h = _
  rw [comp_mapS (fun h => walks_zip rfl rfl) (min xs.length ys.length) 0 h (by simp), zip_pairs, List.drop_zero, mapS_map]
theorem c_zipL : ((srcZip (.lst xs) (.lst ys) h).bind fun src h1 => compLoop src g mt body own src.n 0 r h1) = mapS (fun x h' => turnC g mt body (wipeE r own) (.ins 1 [x.1, x.2]) h') (xs.zip ys) h := by
  show compLoop (zipSrc (.lst xs) (.lst ys) (min xs.length ys.length)) g mt body own (min xs.length ys.length) 0 r h = _
  rw [comp_mapS (fun h => walks_zip rfl rfl) (min xs.length ys.length) 0 h (by simp), zip_pairs, List.drop_zero, mapS_map]
theorem up_rng (n : Nat) : ((List.range n).map fun i => Val.int (0 + (i : Nat))) = (rng n).map Val.int := by
  simp [rng, Function.comp_def]
theorem c_rng1 {j : Int} (h1 : j ≤ 1000000) (h0 : -4611686018427387904 ≤ j) : ((srcR [.int j] h).bind fun src h1 => compLoop src g mt body own src.n 0 r h1) = mapS (fun x h' => turnC g mt body (wipeE r own) (.int x) h') (rng j) h := by
  have e : srcR [.int j] h = .ok (srcUp 0 j.toNat) h := by simp only [srcR]; rw [if_pos]; simp only [sml, Bool.and_eq_true, decide_eq_true_eq]; omega
  rw [e]
  show compLoop (srcUp 0 j.toNat) g mt body own j.toNat 0 r h = _
  rw [comp_mapS (fun h => walks_up) j.toNat 0 h (by simp), up_rng, List.drop_zero, mapS_map]
  simp only [rng, Int.toNat_natCast]
theorem c_rng2 {i j : Int} (h0 : -1000000 ≤ i) (h2 : i ≤ 1000000) (h1 : j ≤ 1000000) (h3 : -1000000 ≤ j) (h4 : j - i ≤ 1000000) : ((srcR [.int i, .int j] h).bind fun src h1 => compLoop src g mt body own src.n 0 r h1) = mapS (fun x h' => turnC g mt body (wipeE r own) (.int x) h') (rng2 i j) h := by
  have e : srcR [.int i, .int j] h = .ok (srcUp i (j - i).toNat) h := by simp only [srcR]; rw [if_pos]; simp only [sml, Bool.and_eq_true, decide_eq_true_eq]; omega
  rw [e]
  show compLoop (srcUp i (j - i).toNat) g mt body own (j - i).toNat 0 r h = _
  rw [comp_mapS (fun h => walks_up) (j - i).toNat 0 h (by simp), List.drop_zero]
  show _ = mapS _ ((List.range (j - i).toNat).map fun k => i + (k : Nat)) h
  rw [mapS_map, mapS_map]
/-! the same for for -/
@[simp] abbrev turnF (g : TGm) (b : Stm) (x : Val) (r' : Ev) (h' : PH) : Res Fl := (g x r' h').bind fun r1 h1 => b r1 h1
theorem f_seqT : ((srcSeq (.tup xs) h).bind fun src h1 => forLoop src g b src.n 0 r h1) = forS (fun x r' h' => turnF g b x r' h') xs r h := by
  show forLoop (liveSrc (.tup xs) xs.length fun i ys => ys[i]?) g b xs.length 0 r h = _
  rw [for_forS (fun h => walks_seq rfl) xs.length 0 r h (by omega)]; rfl
theorem f_seqL : ((srcSeq (.lst xs) h).bind fun src h1 => forLoop src g b src.n 0 r h1) = forS (fun x r' h' => turnF g b x r' h') xs r h := by
  show forLoop (liveSrc (.lst xs) xs.length fun i ys => ys[i]?) g b xs.length 0 r h = _
  rw [for_forS (fun h => walks_seq rfl) xs.length 0 r h (by omega)]; rfl
theorem f_revT : ((srcRev (.tup xs) h).bind fun src h1 => forLoop src g b src.n 0 r h1) = forS (fun x r' h' => turnF g b x r' h') xs.reverse r h := by
  show forLoop (revSrc (.tup xs) xs.length) g b xs.length 0 r h = _
  rw [for_forS (fun h => walks_rev rfl) xs.length 0 r h (by simp)]; rfl
theorem f_revL : ((srcRev (.lst xs) h).bind fun src h1 => forLoop src g b src.n 0 r h1) = forS (fun x r' h' => turnF g b x r' h') xs.reverse r h := by
  show forLoop (revSrc (.lst xs) xs.length) g b xs.length 0 r h = _
  rw [for_forS (fun h => walks_rev rfl) xs.length 0 r h (by simp)]; rfl
theorem f_enumT : ((srcEnumA (.tup xs) h).bind fun src h1 => forLoop src g b src.n 0 r h1) = forS (fun x r' h' => turnF g b (.ins 1 [.int x.1, x.2]) r' h') (pairs xs) r h := by
  show forLoop (liveSrc (.tup xs) xs.length fun i ys => (ys[i]?).map fun y => .ins 1 [.int i, y]) g b xs.length 0 r h = _
  rw [for_forS (fun h => walks_enum rfl) xs.length 0 r h (by simp), idx_pairs, List.drop_zero, forS_map]
theorem f_enumL : ((srcEnumA (.lst xs) h).bind fun src h1 => forLoop src g b src.n 0 r h1) = forS (fun x r' h' => turnF g b (.ins 1 [.int x.1, x.2]) r' h') (pairs xs) r h := by
  show forLoop (liveSrc (.lst xs) xs.length fun i ys => (ys[i]?).map fun y => .ins 1 [.int i, y]) g b xs.length 0 r h = _
  rw [for_forS (fun h => walks_enum rfl) xs.length 0 r h (by simp), idx_pairs, List.drop_zero, forS_map]
theorem f_zipT : ((srcZip (.tup xs) (.tup ys) h).bind fun src h1 => forLoop src g b src.n 0 r h1) = forS (fun x r' h' => turnF g b (.ins 1 [x.1, x.2]) r' h') (xs.zip ys) r h := by
  show forLoop (zipSrc (.tup xs) (.tup ys) (min xs.length ys.length)) g b (min xs.length ys.length) 0 r h = _
  rw [for_forS (fun h => walks_zip rfl rfl) (min xs.length ys.length) 0 r h (by simp), zip_pairs, List.drop_zero, forS_map]
theorem f_rng1 {j : Int} (h1 : j ≤ 1000000) (h0 : -4611686018427387904 ≤ j) : ((srcR [.int j] h).bind fun src h1 => forLoop src g b src.n 0 r h1) = forS (fun x r' h' => turnF g b (.int x) r' h') (rng j) r h := by
  have e : srcR [.int j] h = .ok (srcUp 0 j.toNat) h := by simp only [srcR]; rw [if_pos]; simp only [sml, Bool.and_eq_true, decide_eq_true_eq]; omega
  rw [e]
  show forLoop (srcUp 0 j.toNat) g b j.toNat 0 r h = _
  rw [for_forS (fun h => walks_up) j.toNat 0 r h (by simp), up_rng, List.drop_zero, forS_map]
  simp only [rng, Int.toNat_natCast]
theorem f_rng2 {i j : Int} (h0 : -1000000 ≤ i) (h2 : i ≤ 1000000) (h1 : j ≤ 1000000) (h3 : -1000000 ≤ j) (h4 : j - i ≤ 1000000) : ((srcR [.int i, .int j] h).bind fun src h1 => forLoop src g b src.n 0 r h1) = forS (fun x r' h' => turnF g b (.int x) r' h') (rng2 i j) r h := by
  have e : srcR [.int i, .int j] h = .ok (srcUp i (j - i).toNat) h := by simp only [srcR]; rw [if_pos]; simp only [sml, Bool.and_eq_true, decide_eq_true_eq]; omega
  rw [e]
  show forLoop (srcUp i (j - i).toNat) g b (j - i).toNat 0 r h = _
  rw [for_forS (fun h => walks_up) (j - i).toNat 0 r h (by simp), List.drop_zero]
  show _ = forS _ ((List.range (j - i).toNat).map fun k => i + (k : Nat)) r h
  rw [forS_map, forS_map]
/-- a state s told by the variables env s -/
theorem forS_fold {α σ : Type} {f : α → Ev → SM Fl} {env : σ → Ev} {step : σ → α → σ} {h : PH} : ∀ {xs : List α} {s : σ}, (∀ x ∈ xs, ∀ s, f x (env s) h = .ok (.nx (env (step s x))) h) → forS f xs (env s) h = .ok (.nx (env (xs.foldl step s))) h
  | [], s, _ => rfl
  | x :: xs, s, e => by
    simp only [forS]
    rw [e x (List.mem_cons_self ..), x_bok]
    exact forS_fold fun y hy => e y (List.mem_cons_of_mem _ hy)
/-- an invariant I over heaps -/
theorem forS_inv {α : Type} {f : α → Ev → SM Fl} (I : Nat → Ev → PH → Prop) : ∀ {xs : List α} {i : Nat} {r : Ev} {h : PH}, I i r h → (∀ j x r h, xs[j]? = some x → I (i + j) r h → ∃ r' h', (f x r h = .ok (.nx r') h' ∨ f x r h = .ok (.ct r') h') ∧ I (i + j + 1) r' h') → ∃ r' h', forS f xs r h = .ok (.nx r') h' ∧ I (i + xs.length) r' h'
  | [], i, r, h, h0, _ => ⟨r, h, rfl, h0⟩
  | x :: xs, i, r, h, h0, st => by
    obtain ⟨r1, h1, e1, q1⟩ := st 0 x r h rfl h0
    obtain ⟨r2, h2, e2, q2⟩ := forS_inv (f := f) I (xs := xs) (i := i + 1) q1 fun j y r h hy hI => by
      obtain ⟨r', h', e, q⟩ := st (j + 1) y r h hy (by rw [show i + (j + 1) = i + 1 + j by omega]; exact hI)
      exact ⟨r', h', e, by rw [show i + 1 + j + 1 = i + (j + 1) + 1 by omega]; exact q⟩
    refine ⟨r2, h2, ?_, by rw [List.length_cons, show i + (xs.length + 1) = i + 1 + xs.length by omega]; exact q2⟩
    simp only [forS]
    rcases e1 with e1 | e1 <;> rw [e1, x_bok] <;> exact e2
theorem mapS_inv {α : Type} {f : α → SM (List Val)} (I : Nat → List Val → PH → Prop) : ∀ {xs : List α} {i : Nat} {acc : List Val} {h : PH}, I i acc h → (∀ j x acc h, xs[j]? = some x → I (i + j) acc h → ∃ ys h', f x h = .ok ys h' ∧ I (i + j + 1) (acc ++ ys) h') → ∃ vs h', mapS f xs h = .ok vs h' ∧ I (i + xs.length) (acc ++ vs) h'
  | [], i, acc, h, h0, _ => ⟨[], h, rfl, by rw [List.append_nil]; exact h0⟩
  | x :: xs, i, acc, h, h0, st => by
    obtain ⟨ys, h1, e1, q1⟩ := st 0 x acc h rfl h0
    obtain ⟨zs, h2, e2, q2⟩ := mapS_inv (f := f) I (xs := xs) (i := i + 1) q1 fun j y acc h hy hI => by
      obtain ⟨ys', h', e, q⟩ := st (j + 1) y acc h hy (by rw [show i + (j + 1) = i + 1 + j by omega]; exact hI)
      exact ⟨ys', h', e, by rw [show i + 1 + j + 1 = i + (j + 1) + 1 by omega]; exact q⟩
    refine ⟨ys ++ zs, h2, ?_, by rw [List.length_cons, show i + (xs.length + 1) = i + 1 + xs.length by omega, ← List.append_assoc]; exact q2⟩
    simp only [mapS]
    rw [e1, x_bok, e2, x_bok]
end
end SW

namespace SW
open PySem

/-! ### things told as values -/
structure EncOK {α : Type} [DecidableEq α] (c : α → Val) (n : Nat) : Prop where
  vw : ∀ h a, view h (c a) = c a
  dt : ∀ a, dat (c a) n = true
  eq : ∀ a b, veq (c a) (c b) = decide (a = b)
  fr : ∀ a, free (c a) = true
abbrev zT (xs : List Int) : Val := .tup (xs.map .int)
abbrev zTT (xs : List (List Int)) : Val := .tup (xs.map zT)
abbrev zL (xs : List Int) : Val := .lst (xs.map .int)
abbrev zLT (xs : List (List Int)) : Val := .lst (xs.map zT)
abbrev zP (p : Int × Int) : Val := .tup [.int p.1, .int p.2]
theorem dats_map {α : Type} {c : α → Val} {n : Nat} (e : ∀ a, dat (c a) n = true) : ∀ xs : List α, dats (xs.map c) n = true
  | [] => rfl
  | x :: xs => by simp only [List.map_cons, dats, e x, dats_map e xs, Bool.and_self]
theorem frees_map {α : Type} {c : α → Val} (e : ∀ a, free (c a) = true) (xs : List α) : frees (xs.map c) = true := by
  rw [frees_all, List.all_eq_true]
  intro v hv
  obtain ⟨a, _, rfl⟩ := List.mem_map.mp hv
  exact e a
theorem veqs_map {α : Type} [DecidableEq α] {c : α → Val} (e : ∀ a b, veq (c a) (c b) = decide (a = b)) : ∀ xs ys : List α, veqs (xs.map c) (ys.map c) = decide (xs = ys)
  | [], [] => rfl
  | [], _ :: _ => rfl
  | _ :: _, [] => rfl
  | x :: xs, y :: ys => by simp only [List.map_cons, veqs, e x y, veqs_map e xs ys, List.cons.injEq, Bool.decide_and]
theorem enc_int : EncOK Val.int 0 := ⟨fun _ _ => rfl, fun _ => rfl, fun a b => by simp only [veq]; rfl, fun _ => rfl⟩
theorem enc_bl : EncOK Val.bl 0 := ⟨fun _ _ => rfl, fun _ => rfl, fun a b => by simp only [veq]; cases a <;> cases b <;> rfl, fun _ => rfl⟩
theorem enc_tup {α : Type} [DecidableEq α] {c : α → Val} {n : Nat} (ok : EncOK c n) : EncOK (fun xs : List α => Val.tup (xs.map c)) (n + 1) :=
  ⟨fun _ _ => rfl, fun a => dats_map ok.dt a, fun a b => veqs_map ok.eq a b, fun a => by unfold free; exact frees_map ok.fr a⟩
theorem enc_lst {α : Type} [DecidableEq α] {c : α → Val} {n : Nat} (ok : EncOK c n) : EncOK (fun xs : List α => Val.lst (xs.map c)) (n + 1) :=
  ⟨fun _ _ => rfl, fun a => dats_map ok.dt a, fun a b => veqs_map ok.eq a b, fun a => by unfold free; exact frees_map ok.fr a⟩
theorem enc_zP : EncOK zP 1 := ⟨fun _ _ => rfl, fun _ => rfl, fun a b => by
  obtain ⟨a1, a2⟩ := a
  obtain ⟨b1, b2⟩ := b
  simp only [veq, veqs, Bool.and_true, Prod.mk.injEq, Bool.decide_and]; rfl, fun _ => rfl⟩
theorem enc_zT : EncOK zT 1 := enc_tup enc_int
theorem enc_zL : EncOK zL 1 := enc_lst enc_int
theorem enc_zTT : EncOK zTT 2 := enc_tup enc_zT
theorem enc_zLT : EncOK zLT 2 := enc_lst enc_zT
section
variable {α : Type} [DecidableEq α] {c : α → Val} {n : Nat} {h : PH} {a b : α} {xs ys : List α}
theorem dat_up {v : Val} {n m : Nat} (e : dat v n = true) (l : n ≤ m) : dat v m = true := dat_mono' e l
where
  dat_mono' : ∀ {v : Val} {n m : Nat}, dat v n = true → n ≤ m → dat v m = true
    | .non, _, _, _, _ => rfl
    | .bl _, _, _, _, _ => rfl
    | .int _, _, _, _, _ => rfl
    | .str _, _, _, _, _ => rfl
    | .tup xs, n, m, h, l => by
      cases n with
      | zero => simp [dat] at h
      | succ n =>
        obtain ⟨k, rfl⟩ : ∃ k, m = k + 1 := ⟨m - 1, by omega⟩
        simp only [dat] at h ⊢
        exact dats_mono' h (by omega)
    | .lst xs, n, m, h, l => by
      cases n with
      | zero => simp [dat] at h
      | succ n =>
        obtain ⟨k, rfl⟩ : ∃ k, m = k + 1 := ⟨m - 1, by omega⟩
        simp only [dat] at h ⊢
        exact dats_mono' h (by omega)
    | .dct _ _, _, _, h, _ => by simp [dat] at h
    | .ins _ _, _, _, h, _ => by simp [dat] at h
    | .ref _, _, _, h, _ => by simp [dat] at h
  dats_mono' : ∀ {vs : List Val} {n m : Nat}, dats vs n = true → n ≤ m → dats vs m = true
    | [], _, _, _, _ => rfl
    | x :: xs, n, m, h, l => by
      simp only [dats, Bool.and_eq_true] at h ⊢
      exact ⟨dat_mono' h.1 l, dats_mono' h.2 l⟩
theorem any_veq (ok : EncOK c n) : ∀ xs : List α, ((xs.map c).any fun z => veq z (c a)) = decide (a ∈ xs)
  | [] => rfl
  | x :: xs => by
    simp only [List.map_cons, List.any_cons, ok.eq, any_veq ok xs, List.mem_cons, Bool.decide_or]
    congr 1
    exact decide_eq_decide.mpr eq_comm
theorem inn_tup (ok : EncOK c n) (hn : n ≤ 59) (k : Bool → Bool) [i : Decidable (a ∈ xs)] : inn h (c a) (.tup (xs.map c)) k = some (.bl (k (decide (a ∈ xs)))) := by
  simp only [inn, view_tup', ok.vw, dat_up (ok.dt a) (show n ≤ 60 by omega), dats_map (fun a => dat_up (ok.dt a) (show n ≤ 60 by omega)), Bool.and_self, if_true, any_veq ok]
  exact congrArg (fun b => some (Val.bl (k b))) (decide_eq_decide.mpr Iff.rfl)
theorem inn_lst (ok : EncOK c n) (hn : n ≤ 59) (k : Bool → Bool) [i : Decidable (a ∈ xs)] : inn h (c a) (.lst (xs.map c)) k = some (.bl (k (decide (a ∈ xs)))) := by
  simp only [inn, view_lst', ok.vw, dat_up (ok.dt a) (show n ≤ 60 by omega), dats_map (fun a => dat_up (ok.dt a) (show n ≤ 60 by omega)), Bool.and_self, if_true, any_veq ok]
  exact congrArg (fun b => some (Val.bl (k b))) (decide_eq_decide.mpr Iff.rfl)
theorem eq_enc (ok : EncOK c n) (hn : n ≤ 59) : gEq h (c a) (c b) = some (.bl (decide (a = b))) := by
  simp only [gEq, dd, ok.vw, dat_up (ok.dt a) (show n ≤ 60 by omega), dat_up (ok.dt b) (show n ≤ 60 by omega), Bool.and_self, if_true, ok.eq]
theorem ne_enc (ok : EncOK c n) (hn : n ≤ 59) : gNe h (c a) (c b) = some (.bl (!decide (a = b))) := by
  simp only [gNe, dd, ok.vw, dat_up (ok.dt a) (show n ≤ 60 by omega), dat_up (ok.dt b) (show n ≤ 60 by omega), Bool.and_self, if_true, ok.eq]
end
section
variable {h : PH} {i j : Int} {xs ys : List Int} {xss yss : List (List Int)} {p q : Int × Int} {ps qs : List (Int × Int)}
@[simp] theorem in_it : gIn h (.int i) (.tup (xs.map .int)) = some (.bl (decide (i ∈ xs))) := inn_tup enc_int (by decide) id
@[simp] theorem in_il : gIn h (.int i) (.lst (xs.map .int)) = some (.bl (decide (i ∈ xs))) := inn_lst enc_int (by decide) id
@[simp] theorem notin_it : gNotIn h (.int i) (.tup (xs.map .int)) = some (.bl (!decide (i ∈ xs))) := inn_tup enc_int (by decide) not
@[simp] theorem notin_il : gNotIn h (.int i) (.lst (xs.map .int)) = some (.bl (!decide (i ∈ xs))) := inn_lst enc_int (by decide) not
@[simp] theorem in_tt : gIn h (.tup (xs.map .int)) (.tup (xss.map zT)) = some (.bl (decide (xs ∈ xss))) := inn_tup (h := h) (a := xs) (xs := xss) enc_zT (by decide) id
@[simp] theorem in_tl : gIn h (.tup (xs.map .int)) (.lst (xss.map zT)) = some (.bl (decide (xs ∈ xss))) := inn_lst (h := h) (a := xs) (xs := xss) enc_zT (by decide) id
@[simp] theorem notin_tt : gNotIn h (.tup (xs.map .int)) (.tup (xss.map zT)) = some (.bl (!decide (xs ∈ xss))) := inn_tup (h := h) (a := xs) (xs := xss) enc_zT (by decide) not
@[simp] theorem notin_tl : gNotIn h (.tup (xs.map .int)) (.lst (xss.map zT)) = some (.bl (!decide (xs ∈ xss))) := inn_lst (h := h) (a := xs) (xs := xss) enc_zT (by decide) not
@[simp] theorem in_pt : gIn h (.tup [.int i, .int j]) (.tup (ps.map zP)) = some (.bl (decide ((i, j) ∈ ps))) := inn_tup (h := h) (a := (i, j)) (xs := ps) enc_zP (by decide) id
@[simp] theorem in_pl : gIn h (.tup [.int i, .int j]) (.lst (ps.map zP)) = some (.bl (decide ((i, j) ∈ ps))) := inn_lst (h := h) (a := (i, j)) (xs := ps) enc_zP (by decide) id
@[simp] theorem notin_pt : gNotIn h (.tup [.int i, .int j]) (.tup (ps.map zP)) = some (.bl (!decide ((i, j) ∈ ps))) := inn_tup (h := h) (a := (i, j)) (xs := ps) enc_zP (by decide) not
@[simp] theorem notin_pl : gNotIn h (.tup [.int i, .int j]) (.lst (ps.map zP)) = some (.bl (!decide ((i, j) ∈ ps))) := inn_lst (h := h) (a := (i, j)) (xs := ps) enc_zP (by decide) not
@[simp] theorem eq_tt : gEq h (.tup (xs.map .int)) (.tup (ys.map .int)) = some (.bl (decide (xs = ys))) := eq_enc enc_zT (by decide)
@[simp] theorem ne_tt : gNe h (.tup (xs.map .int)) (.tup (ys.map .int)) = some (.bl (!decide (xs = ys))) := ne_enc enc_zT (by decide)
@[simp] theorem eq_ll : gEq h (.lst (xs.map .int)) (.lst (ys.map .int)) = some (.bl (decide (xs = ys))) := eq_enc enc_zL (by decide)
@[simp] theorem ne_ll : gNe h (.lst (xs.map .int)) (.lst (ys.map .int)) = some (.bl (!decide (xs = ys))) := ne_enc enc_zL (by decide)
@[simp] theorem eq_t2 : gEq h (.tup (xss.map zT)) (.tup (yss.map zT)) = some (.bl (decide (xss = yss))) := eq_enc enc_zTT (by decide)
@[simp] theorem ne_t2 : gNe h (.tup (xss.map zT)) (.tup (yss.map zT)) = some (.bl (!decide (xss = yss))) := ne_enc enc_zTT (by decide)
@[simp] theorem eq_l2 : gEq h (.lst (xss.map zT)) (.lst (yss.map zT)) = some (.bl (decide (xss = yss))) := eq_enc enc_zLT (by decide)
@[simp] theorem eq_pp {k l : Int} : gEq h (.tup [.int i, .int j]) (.tup [.int k, .int l]) = some (.bl (decide (i = k) && decide (j = l))) := by
  have := eq_enc (h := h) (a := (i, j)) (b := (k, l)) enc_zP (by decide)
  rw [← Bool.decide_and]
  simpa only [Prod.mk.injEq] using this
@[simp] theorem add_tt {xs ys : List Val} (e : xs.length + ys.length ≤ 1000000) : gAdd h (.tup xs) (.tup ys) = some (.tup (xs ++ ys)) := by simp only [gAdd, view_tup', if_pos e]
@[simp] theorem add_ll {xs ys : List Val} (e : xs.length + ys.length ≤ 1000000) : gAdd h (.lst xs) (.lst ys) = some (.lst (xs ++ ys)) := by simp only [gAdd, view_lst', if_pos e]
theorem all_bl {α : Type} (f : α → Bool) (xs : List α) : gAll h [.lst (xs.map fun x => .bl (f x))] = some (.bl (xs.all f)) := by
  simp only [gAll, view_lst', bls_map, Option.map_some, List.all_map]; rfl
theorem any_bl {α : Type} (f : α → Bool) (xs : List α) : gAny h [.lst (xs.map fun x => .bl (f x))] = some (.bl (xs.any f)) := by
  simp only [gAny, view_lst', bls_map, Option.map_some, List.any_map]; rfl
@[simp] theorem all_l : gAll h [.lst []] = some (.bl true) := rfl
theorem ints_map : ∀ xs : List Int, intsV (xs.map .int) = some xs
  | [] => rfl
  | x :: xs => by simp only [List.map_cons, intsV, ints_map xs, Option.map_some]
@[simp] theorem sum_l : gSum h [.lst (xs.map .int)] = some (.int xs.sum) := by simp only [gSum, view_lst', ints_map, Option.map_some]
@[simp] theorem listN_l {xs : List Val} : gListN h [.lst xs] = some xs := rfl
@[simp] theorem listN_t {xs : List Val} : gListN h [.tup xs] = some xs := rfl
theorem atI_map {α β : Type} (c : α → β) (xs : List α) (i : Int) : L2.atI (xs.map c) i = (L2.atI xs i).map c := by
  simp only [L2.atI, List.length_map]
  cases L2.ixN xs.length i with
  | none => rfl
  | some k => simp
@[simp] theorem free_tI : free (.tup (xs.map .int)) = true := by unfold free; exact frees_map (fun _ => rfl) _
@[simp] theorem free_lI : free (.lst (xs.map .int)) = true := by unfold free; exact frees_map (fun _ => rfl) _
@[simp] theorem free_t2 : free (.tup (xss.map zT)) = true := enc_zTT.fr xss
@[simp] theorem free_l2 : free (.lst (xss.map zT)) = true := enc_zLT.fr xss
@[simp] theorem free_i : free (.int i) = true := rfl
@[simp] theorem free_b {b : Bool} : free (.bl b) = true := rfl
@[simp] theorem free_n : free .non = true := rfl
@[simp] theorem free_pt : free (.tup (ps.map zP)) = true := (enc_tup enc_zP).fr ps
@[simp] theorem free_pl : free (.lst (ps.map zP)) = true := (enc_lst enc_zP).fr ps
@[simp] theorem frees_nil : frees [] = true := rfl
@[simp] theorem frees_cons {v : Val} {vs : List Val} : frees (v :: vs) = (free v && frees vs) := rfl
end
@[simp] theorem x_cut {a : Ex} {lo hi : Option Ex} {r : Ev} {h : PH} : eCut a lo hi r h = if isTupR (a r h) then eSlc gCut a lo hi r h else eFrz (eSlc gCutN a lo hi) r h := hide rfl
@[simp] theorem isTupR_ok {v : Val} {h : PH} : isTupR (.ok v h) = v.isTup := hide rfl
section
variable {xs ks : List Val} {i : Int} {l n : Nat} {s : Str} {b : Bool} {h : PH} {lo hi : Option Int}
@[simp] theorem isTup_tup : Val.isTup (.tup xs) = true := hide rfl
@[simp] theorem isTup_lst : Val.isTup (.lst xs) = false := hide rfl
@[simp] theorem isTup_ins : Val.isTup (.ins n xs) = false := hide rfl
@[simp] theorem isTup_ref : Val.isTup (.ref l) = false := hide rfl
@[simp] theorem isTup_str : Val.isTup (.str s) = false := hide rfl
@[simp] theorem cut_t : gCut h (.tup xs) lo hi = some (.tup (cutL xs lo hi)) := hide rfl
@[simp] theorem cut_l : gCutN h (.lst xs) lo hi = some (cutL xs lo hi) := hide rfl
@[simp] theorem cut_s : gCutN h (.ins 0 xs) lo hi = some (cutL xs lo hi) := hide rfl
@[simp] theorem cutL_map {α β : Type} (c : α → β) (xs : List α) (lo hi : Option Int) : cutL (xs.map c) lo hi = (cutL xs lo hi).map c := by
  simp only [cutL, List.length_map, List.map_take, List.map_drop]
end
/-! ### maps told -/
section
variable {α : Type} {xs : List α} {h : PH}
@[simp] theorem mapS_int (F : α → Int) : mapS (fun x h' => .ok [Val.int (F x)] h') xs h = .ok ((xs.map F).map Val.int) h := by rw [mapS_one, List.map_map]; rfl
@[simp] theorem mapS_tup (F : α → List Int) : mapS (fun x h' => .ok [Val.tup ((F x).map Val.int)] h') xs h = .ok ((xs.map F).map zT) h := by rw [mapS_one, List.map_map]; rfl
@[simp] theorem mapS_bl (F : α → Bool) : mapS (fun x h' => .ok [Val.bl (F x)] h') xs h = .ok (xs.map fun x => .bl (F x)) h := mapS_one xs _ h
@[simp] theorem mapS_int' (xs : List Int) : mapS (fun x h' => .ok [Val.int x] h') xs h = .ok (xs.map Val.int) h := mapS_one xs _ h
@[simp] theorem mapS_tup' (xs : List (List Int)) : mapS (fun x h' => .ok [Val.tup (x.map Val.int)] h') xs h = .ok (xs.map zT) h := mapS_one xs _ h
@[simp] theorem fI (c : α → Prop) [DecidablePred c] (F : α → Int) : mapS (fun x h' => if c x then .ok [Val.int (F x)] h' else .ok [] h') xs h = .ok (((xs.filter fun x => decide (c x)).map F).map Val.int) h := by rw [mapS_filt, List.map_map]; rfl
@[simp] theorem fT (c : α → Prop) [DecidablePred c] (F : α → List Int) : mapS (fun x h' => if c x then .ok [Val.tup ((F x).map Val.int)] h' else .ok [] h') xs h = .ok (((xs.filter fun x => decide (c x)).map F).map zT) h := by rw [mapS_filt, List.map_map]; rfl
@[simp] theorem fI' (xs : List Int) (c : Int → Prop) [DecidablePred c] : mapS (fun x h' => if c x then .ok [Val.int x] h' else .ok [] h') xs h = .ok ((xs.filter fun x => decide (c x)).map Val.int) h := mapS_filt xs c _ h
@[simp] theorem fT' (xs : List (List Int)) (c : List Int → Prop) [DecidablePred c] : mapS (fun x h' => if c x then .ok [Val.tup (x.map Val.int)] h' else .ok [] h') xs h = .ok ((xs.filter fun x => decide (c x)).map zT) h := mapS_filt xs c _ h
@[simp] theorem gI' (xs : List Int) (c : Int → Prop) [DecidablePred c] : mapS (fun x h' => if c x then .ok [] h' else .ok [Val.int x] h') xs h = .ok ((xs.filter fun x => decide (¬ c x)).map Val.int) h := mapS_filtN xs c _ h
@[simp] theorem gT' (xs : List (List Int)) (c : List Int → Prop) [DecidablePred c] : mapS (fun x h' => if c x then .ok [] h' else .ok [Val.tup (x.map Val.int)] h') xs h = .ok ((xs.filter fun x => decide (¬ c x)).map zT) h := mapS_filtN xs c _ h
@[simp] theorem gI (c : α → Prop) [DecidablePred c] (F : α → Int) : mapS (fun x h' => if c x then .ok [] h' else .ok [Val.int (F x)] h') xs h = .ok (((xs.filter fun x => decide (¬ c x)).map F).map Val.int) h := by rw [mapS_filtN, List.map_map]; rfl
@[simp] theorem gT (c : α → Prop) [DecidablePred c] (F : α → List Int) : mapS (fun x h' => if c x then .ok [] h' else .ok [Val.tup ((F x).map Val.int)] h') xs h = .ok (((xs.filter fun x => decide (¬ c x)).map F).map zT) h := by rw [mapS_filtN, List.map_map]; rfl
theorem flatMap_map' {α β γ : Type} (f : β → γ) (g : α → List β) (xs : List α) : (xs.flatMap fun x => (g x).map f) = (xs.flatMap g).map f := by
  induction xs with
  | nil => rfl
  | cons x xs ih => simp only [List.flatMap_cons, List.map_append, ih]
@[simp] theorem mapS_ffI (F : α → List Int) : mapS (fun x h' => .ok ((F x).map Val.int) h') xs h = .ok ((xs.flatMap F).map Val.int) h := by rw [mapS_flatP, flatMap_map']
@[simp] theorem mapS_ffT (F : α → List (List Int)) : mapS (fun x h' => .ok ((F x).map zT) h') xs h = .ok ((xs.flatMap F).map zT) h := by rw [mapS_flatP, flatMap_map']
end

end SW

namespace SW
open PySem

/-! ### runs told by plain functions -/
inductive R (α : Type) : Type where
  | ok (a : α)
  | ex (e : Val)
  | st
namespace R
def bind {α β : Type} (m : R α) (k : α → R β) : R β := match m with
  | .ok a => k a
  | .ex e => .ex e
  | .st => .st
def nx {α : Type} (m : R α) : R α := match m with
  | .ex _ => .st
  | m => m
/-- a name for a value -/
def lt {α β : Type} (x : α) (k : α → R β) : R β := k x
end R
@[simp] theorem R.bind_ok {α β : Type} (a : α) (k : α → R β) : (R.ok a).bind k = k a := hide rfl
@[simp] theorem R.bind_ex {α β : Type} (e : Val) (k : α → R β) : (R.ex e).bind k = .ex e := hide rfl
@[simp] theorem R.bind_st {α β : Type} (k : α → R β) : (R.st).bind k = .st := hide rfl
@[simp] theorem R.nx_ok {α : Type} (a : α) : (R.ok a).nx = .ok a := hide rfl
@[simp] theorem R.lt_eq {α β : Type} (a : α) (k : α → R β) : R.lt a k = k a := hide rfl
def Run {α β : Type} (x : Res β) (m : R α) (Q : α → β → PH → Prop) : Prop := match m with
  | .ok a => ∃ b h, x = .ok b h ∧ Q a b h
  | .ex e => exFlat e = true ∧ ∃ h, x = .exc e h
  | .st => True
section
variable {α β γ δ : Type} {Q : α → β → PH → Prop} {h h' : PH} {r r' : Ev}
theorem run_ret {a : α} {b : β} (q : Q a b h) : Run (.ok b h) (.ok a) Q := ⟨b, h, rfl, q⟩
theorem run_mono {Q2 : α → β → PH → Prop} {x : Res β} {m : R α} (o : Run x m Q) (k : ∀ a b h, Q a b h → Q2 a b h) : Run x m Q2 := by
  cases m with
  | ok a => obtain ⟨b, h, e, q⟩ := o; exact ⟨b, h, e, k a b h q⟩
  | ex e => exact o
  | st => trivial
theorem run_bind {x : Res γ} {f : γ → SM β} {m : R δ} {k : δ → R α} {P : δ → γ → PH → Prop} (o : Run x m P) (n : ∀ a b h, P a b h → Run (f b h) (k a) Q) : Run (x.bind f) (m.bind k) Q := by
  cases m with
  | ok a => obtain ⟨b, h, e, q⟩ := o; rw [e]; exact n a b h q
  | ex e => obtain ⟨e1, h, e2⟩ := o; rw [e2]; exact ⟨e1, h, rfl⟩
  | st => trivial
/-- exact ends -/
abbrev Xt (V : δ → γ) (Hh : δ → PH) : δ → γ → PH → Prop := fun a b h => b = V a ∧ h = Hh a
theorem c_run {x : Res γ} {f : γ → SM β} {m : R δ} {k : δ → R α} {V : δ → γ} {Hh : δ → PH} (o : Run x m (Xt V Hh)) (n : ∀ a, Run (f (V a) (Hh a)) (k a) Q) : Run (x.bind f) (m.bind k) Q :=
  run_bind o fun a b h ⟨e1, e2⟩ => by rw [e1, e2]; exact n a
theorem c_pure {x : Res γ} {f : γ → SM β} {m : R α} {v : γ} (e : x = .ok v h) (n : Run (f v h) m Q) : Run (x.bind f) m Q := by rw [e]; exact n
theorem c_gen {x : Res γ} {f : γ → SM β} {k : δ → R α} {v : δ → γ} {X : δ} (e : x = .ok (v X) h) (n : ∀ X, Run (f (v X) h) (k X) Q) : Run (x.bind f) (R.lt X k) Q := by rw [e]; exact n X
theorem c_id {x : Res β} {m : R α} (o : Run (x.bind Res.ok) m Q) : Run x m Q := by cases x <;> exact o
theorem c_conv {x : Res β} {m m' : R α} (o : Run x m Q) (e : m = m') : Run x m' Q := e ▸ o
theorem c_eq {x x' : Res β} {m : R α} (e : x = x') (o : Run x' m Q) : Run x m Q := e ▸ o
theorem c_ite {k : Bool} {x y : Res β} {a b : R α} (o : Run x a Q) (o2 : Run y b Q) : Run (if k = true then x else y) (if k = true then a else b) Q := by
  cases k with
  | true => exact o
  | false => exact o2
theorem c_iteT {k : Bool} {x y : Res β} {a : R α} (hk : k = true) (o : Run x a Q) : Run (if k = true then x else y) a Q := by rw [if_pos hk]; exact o
theorem c_iteF {k : Bool} {x y : Res β} {a : R α} (hk : k = false) (o : Run y a Q) : Run (if k = true then x else y) a Q := by subst hk; exact o
end
section
variable {α β : Type} {Q : α → β → PH → Prop} {h : PH} {r : Ev} {M : R α} {f : Val → SM β} {fs : List Val → SM β} {a b c : Ex} {es ms : List Ex} {mn : Ev → SM (List Val)}
theorem bind_assoc {α β γ : Type} (x : Res α) (f : α → SM β) (g : β → SM γ) : (x.bind f).bind g = x.bind fun a h => (f a h).bind g := by cases x <;> rfl
theorem c_bin {g : PH → Val → Val → Option Val} (o : Run ((a r h).bind fun x h1 => (b r h1).bind fun y h2 => (lift (g h2 x y) h2).bind f) M Q) : Run ((eBin g a b r h).bind f) M Q := by
  unfold eBin; simp only [bind_assoc]; exact o
theorem c_un {g : PH → Val → Option Val} (o : Run ((a r h).bind fun x h1 => (lift (g h1 x) h1).bind f) M Q) : Run ((eUn g a r h).bind f) M Q := by
  unfold eUn; simp only [bind_assoc]; exact o
theorem c_call {g : PH → List Val → Option Val} (o : Run ((eArgs ms r h).bind fun vs h1 => (lift (g h1 vs) h1).bind f) M Q) : Run ((eCall g ms r h).bind f) M Q := by
  unfold eCall; simp only [bind_assoc]; exact o
theorem c_callN {g : PH → List Val → Option (List Val)} (o : Run ((eArgs ms r h).bind fun vs h1 => (lift (g h1 vs) h1).bind fs) M Q) : Run ((eCallN g ms r h).bind fs) M Q := by
  unfold eCallN; simp only [bind_assoc]; exact o
theorem c_callD {d : Dm} (o : Run ((eArgs ms r h).bind fun vs h1 => (d vs h1).bind f) M Q) : Run ((eCallD d ms r h).bind f) M Q := by
  unfold eCallD; simp only [bind_assoc]; exact o
theorem c_callP {d : Dm} (o : Run ((eArgs ms r h).bind fun vs h1 => (apart d vs h1).bind f) M Q) : Run ((eCallP d ms r h).bind f) M Q := c_callD o
theorem c_call1 {d : Dm} (o : Run ((eArgs ms r h).bind fun vs h1 => (apart1 d vs h1).bind f) M Q) : Run ((eCall1 d ms r h).bind f) M Q := c_callD o
theorem c_callNP {d : Dm} (o : Run ((eArgs ms r h).bind fun vs h1 => (apartN d vs h1).bind fs) M Q) : Run ((eCallNP d ms r h).bind fs) M Q := by
  unfold eCallNP; simp only [bind_assoc]; exact o
theorem c_args0 (o : Run (fs [] h) M Q) : Run ((eArgs [] r h).bind fs) M Q := o
theorem c_args1 {e : Ex} (o : Run ((e r h).bind fun v h1 => (eArgs es r h1).bind fun vs h2 => fs (v :: vs) h2) M Q) : Run ((eArgs (e :: es) r h).bind fs) M Q := by
  show Run (((e r h).bind fun v h1 => (eArgs es r h1).bind fun vs h2 => .ok (v :: vs) h2).bind fs) M Q
  simp only [bind_assoc]; exact o
theorem c_tup (o : Run ((eArgs ms r h).bind fun vs h1 => f (.tup vs) h1) M Q) : Run ((eTup ms r h).bind f) M Q := by
  unfold eTup; simp only [bind_assoc]; exact o
theorem c_frz (o : Run ((mn r h).bind fun vs h1 => f (.lst vs) h1) M Q) : Run ((eFrz mn r h).bind f) M Q := by
  unfold eFrz; simp only [bind_assoc]; exact o
theorem c_tupN (o : Run ((mn r h).bind fun vs h1 => f (.tup vs) h1) M Q) : Run ((eTupN mn r h).bind f) M Q := by
  unfold eTupN; simp only [bind_assoc]; exact o
theorem c_loc (o : Run ((mn r h).bind fun vs h1 => f (.ref h1.length) (h1 ++ [.lst vs])) M Q) : Run ((eLoc mn r h).bind f) M Q := by
  unfold eLoc; simp only [bind_assoc]; exact o
/-- by a flag -/
def bK {β : Type} (v : Val) (x y : Res β) : Res β := match v with
  | .bl true => x
  | .bl false => y
  | _ => .stuck
theorem c_and (o : Run ((a r h).bind fun x h1 => bK x ((b r h1).bind f) (f (.bl false) h1)) M Q) : Run ((eAnd a b r h).bind f) M Q := by
  refine c_eq ?_ o
  unfold eAnd; simp only [bind_assoc]
  congr 1; funext x h1
  cases x with
  | bl k => cases k <;> rfl
  | _ => rfl
theorem c_or (o : Run ((a r h).bind fun x h1 => bK x (f (.bl true) h1) ((b r h1).bind f)) M Q) : Run ((eOr a b r h).bind f) M Q := by
  refine c_eq ?_ o
  unfold eOr; simp only [bind_assoc]
  congr 1; funext x h1
  cases x with
  | bl k => cases k <;> rfl
  | _ => rfl
theorem c_not (o : Run ((a r h).bind fun x h1 => match x with | .bl k => f (.bl (!k)) h1 | _ => .stuck) M Q) : Run ((eNot a r h).bind f) M Q := by
  refine c_eq ?_ o
  unfold eNot; simp only [bind_assoc]
  congr 1; funext x h1
  cases x <;> rfl
theorem c_if (o : Run (((c r h).bind truthM).bind fun k h1 => if k then (a r h1).bind f else (b r h1).bind f) M Q) : Run ((eIf c a b r h).bind f) M Q := by
  refine c_eq ?_ o
  unfold eIf; simp only [bind_assoc]
  congr 1; funext x h1; congr 1; funext k h2
  cases k <;> rfl
theorem c_chain {g g' : PH → Val → Val → Option Val} (o : Run ((a r h).bind fun x h1 => (b r h1).bind fun y h2 => (lift (g h2 x y) h2).bind fun z h3 => bK z ((c r h3).bind fun w h4 => (lift (g' h4 y w) h4).bind f) (f (.bl false) h3)) M Q) : Run ((eChain g g' a b c r h).bind f) M Q := by
  refine c_eq ?_ o
  unfold eChain; simp only [bind_assoc]
  congr 1; funext x h1; congr 1; funext k h2; congr 1; funext z h3
  cases z with
  | bl k => cases k <;> simp only [bK, bind_assoc] <;> rfl
  | _ => rfl
/-- and, once the first is told -/
theorem c_andB {k : Bool} {x y : Res β} {A B : R α} (o : Run x A Q) (o2 : Run y B Q) : Run (bK (.bl k) x y) (if k = true then A else B) Q := by
  cases k with
  | true => exact o
  | false => exact o2
/-! tests -/
variable {ft : Bool → SM β}
theorem k_val (o : Run ((a r h).bind fun v h1 => (truthM v h1).bind ft) M Q) : Run (((a r h).bind truthM).bind ft) M Q := by rw [bind_assoc]; exact o
theorem k_bl {k : Bool} (o : Run (ft k h) M Q) : Run ((truthM (.bl k) h).bind ft) M Q := o
theorem k_and (o : Run (((a r h).bind truthM).bind fun k h1 => if k then ((b r h1).bind truthM).bind ft else ft false h1) M Q) : Run (((kAnd a b r h).bind truthM).bind ft) M Q := by
  refine c_eq ?_ o
  unfold kAnd; simp only [bind_assoc]
  congr 1; funext x h1; congr 1; funext k h2
  cases k
  · rfl
  · simp only [if_true, bind_assoc]
theorem k_or (o : Run (((a r h).bind truthM).bind fun k h1 => if k then ft true h1 else ((b r h1).bind truthM).bind ft) M Q) : Run (((kOr a b r h).bind truthM).bind ft) M Q := by
  refine c_eq ?_ o
  unfold kOr; simp only [bind_assoc]
  congr 1; funext x h1; congr 1; funext k h2
  cases k
  · simp only [Bool.false_eq_true, if_false, bind_assoc]
  · rfl
theorem k_not (o : Run (((a r h).bind truthM).bind fun k h1 => ft (!k) h1) M Q) : Run (((kNot a r h).bind truthM).bind ft) M Q := by
  refine c_eq ?_ o
  unfold kNot; simp only [bind_assoc]
  congr 1
/-- a pure test -/
theorem k_pure {k : Bool} (e : (a r h).bind truthM = .ok k h) (o : Run (ft k h) M Q) : Run (((a r h).bind truthM).bind ft) M Q := by rw [e]; exact o
/-! operations -/
theorem c_liftP {γ : Type} {z : γ} {o : Option γ} {f : γ → SM β} (e : o = some z) (n : Run (f z h) M Q) : Run ((lift o h).bind f) M Q := by rw [e]; exact n
end
/-- what an operation gives -/
def OpV {γ δ : Type} (o : Option δ) (m : R γ) (d : γ → δ) : Prop := match m with
  | .ok z => o = some (d z)
  | .ex _ => False
  | .st => True
theorem c_lift {α β γ δ : Type} {Q : α → β → PH → Prop} {h : PH} {o : Option δ} {m : R γ} {d : γ → δ} {k : γ → R α} {f : δ → SM β} (e : OpV o m d) (n : ∀ z, Run (f (d z) h) (k z) Q) : Run ((lift o h).bind f) (m.bind k) Q := by
  cases m with
  | ok z => have e : o = some (d z) := e; rw [e]; exact n z
  | ex _ => exact e.elim
  | st => trivial

/-! ### pure runs -/
section
variable {h : PH} {r : Ev} {a b c : Ex} {x y z v w : Val} {vs : List Val} {es ms : List Ex} {mn : Ev → SM (List Val)} {p q k : Bool} {l : Nat}
theorem q_var {i : Nat} (e : r.getD i none = some v) : eVar i r h = .ok v h := by show lift (r.getD i none) h = _; rw [e]; rfl
theorem q_c : eC v r h = .ok v h := rfl
theorem q_bin {g : PH → Val → Val → Option Val} (ha : a r h = .ok x h) (hb : b r h = .ok y h) (hg : g h x y = some z) : eBin g a b r h = .ok z h := by unfold eBin; simp only [ha, x_bok, hb, hg, x_lift]
theorem q_un {g : PH → Val → Option Val} (ha : a r h = .ok x h) (hg : g h x = some z) : eUn g a r h = .ok z h := by unfold eUn; simp only [ha, x_bok, hg, x_lift]
theorem q_args0 : eArgs [] r h = .ok [] h := rfl
theorem q_args1 (ha : a r h = .ok x h) (hb : eArgs es r h = .ok vs h) : eArgs (a :: es) r h = .ok (x :: vs) h := by simp only [x_args1, ha, x_bok, hb]
theorem q_tup (ha : eArgs ms r h = .ok vs h) : eTup ms r h = .ok (.tup vs) h := by simp only [x_tup, ha, x_bok]
theorem q_call {g : PH → List Val → Option Val} (ha : eArgs ms r h = .ok vs h) (hg : g h vs = some z) : eCall g ms r h = .ok z h := by simp only [x_call, ha, x_bok, hg, x_lift]
theorem q_callN {g : PH → List Val → Option (List Val)} {zs : List Val} (ha : eArgs ms r h = .ok vs h) (hg : g h vs = some zs) : eCallN g ms r h = .ok zs h := by simp only [x_callN, ha, x_bok, hg, x_lift]
theorem q_frz (ha : mn r h = .ok vs h) : eFrz mn r h = .ok (.lst vs) h := by simp only [x_frz, ha, x_bok]
theorem q_tupN (ha : mn r h = .ok vs h) : eTupN mn r h = .ok (.tup vs) h := by unfold eTupN; simp only [ha, x_bok]
theorem q_and (ha : a r h = .ok (.bl p) h) (hb : b r h = .ok (.bl q) h) : eAnd a b r h = .ok (.bl (p && q)) h := by
  simp only [x_and, ha, x_bok]; cases p with
  | true => exact hb
  | false => rfl
theorem q_or (ha : a r h = .ok (.bl p) h) (hb : b r h = .ok (.bl q) h) : eOr a b r h = .ok (.bl (p || q)) h := by
  simp only [x_or, ha, x_bok]; cases p with
  | true => rfl
  | false => exact hb
theorem q_andF (ha : a r h = .ok (.bl false) h) : eAnd a b r h = .ok (.bl false) h := by simp only [x_and, ha, x_bok]
theorem q_andT (ha : a r h = .ok (.bl true) h) (hb : b r h = .ok v h) : eAnd a b r h = .ok v h := by simp only [x_and, ha, x_bok]; exact hb
theorem q_orT (ha : a r h = .ok (.bl true) h) : eOr a b r h = .ok (.bl true) h := by simp only [x_or, ha, x_bok]
theorem q_orF (ha : a r h = .ok (.bl false) h) (hb : b r h = .ok v h) : eOr a b r h = .ok v h := by simp only [x_or, ha, x_bok]; exact hb
theorem q_not (ha : a r h = .ok (.bl p) h) : eNot a r h = .ok (.bl (!p)) h := by simp only [x_not, ha, x_bok]
theorem q_if {α : Type} {d : α → Val} {A B : α} (hc : (c r h).bind truthM = .ok k h) (ha : a r h = .ok (d A) h) (hb : b r h = .ok (d B) h) : eIf c a b r h = .ok (d (if k = true then A else B)) h := by
  simp only [x_if, hc, x_bok]; cases k with
  | true => exact ha
  | false => exact hb
theorem q_ifT (hc : (c r h).bind truthM = .ok true h) (ha : a r h = .ok v h) : eIf c a b r h = .ok v h := by simp only [x_if, hc, x_bok]; exact ha
theorem q_ifF (hc : (c r h).bind truthM = .ok false h) (ha : b r h = .ok v h) : eIf c a b r h = .ok v h := by simp only [x_if, hc, x_bok]; exact ha
theorem q_chain {g g' : PH → Val → Val → Option Val} (ha : a r h = .ok x h) (hb : b r h = .ok y h) (hc : c r h = .ok w h) (hg : g h x y = some (.bl p)) (hg' : g' h y w = some (.bl q)) : eChain g g' a b c r h = .ok (.bl (p && q)) h := by
  simp only [x_chain, ha, x_bok, hb, hg, x_lift]; cases p with
  | true => simp only [hc, x_bok, hg', x_lift, Bool.true_and]
  | false => rfl
theorem t_bl (ha : a r h = .ok (.bl k) h) : (a r h).bind truthM = .ok k h := by rw [ha]; rfl
theorem t_int {i : Int} (ha : a r h = .ok (.int i) h) : (a r h).bind truthM = .ok (i != 0) h := by rw [ha]; rfl
theorem t_tup (ha : a r h = .ok (.tup vs) h) : (a r h).bind truthM = .ok (!vs.isEmpty) h := by rw [ha]; rfl
theorem t_lst (ha : a r h = .ok (.lst vs) h) : (a r h).bind truthM = .ok (!vs.isEmpty) h := by rw [ha]; rfl
theorem t_and (ha : (a r h).bind truthM = .ok p h) (hb : (b r h).bind truthM = .ok q h) : (kAnd a b r h).bind truthM = .ok (p && q) h := by
  simp only [x_kand, ha, x_bok]; cases p with
  | true => exact hb
  | false => rfl
theorem t_or (ha : (a r h).bind truthM = .ok p h) (hb : (b r h).bind truthM = .ok q h) : (kOr a b r h).bind truthM = .ok (p || q) h := by
  simp only [x_kor, ha, x_bok]; cases p with
  | true => rfl
  | false => exact hb
theorem t_andF (ha : (a r h).bind truthM = .ok false h) : (kAnd a b r h).bind truthM = .ok false h := by simp only [x_kand, ha, x_bok]; rfl
theorem t_andT (ha : (a r h).bind truthM = .ok true h) (hb : (b r h).bind truthM = .ok q h) : (kAnd a b r h).bind truthM = .ok q h := by simp only [x_kand, ha, x_bok]; exact hb
theorem t_orT (ha : (a r h).bind truthM = .ok true h) : (kOr a b r h).bind truthM = .ok true h := by simp only [x_kor, ha, x_bok]; rfl
theorem t_orF (ha : (a r h).bind truthM = .ok false h) (hb : (b r h).bind truthM = .ok q h) : (kOr a b r h).bind truthM = .ok q h := by simp only [x_kor, ha, x_bok]; exact hb
theorem t_not (ha : (a r h).bind truthM = .ok p h) : (kNot a r h).bind truthM = .ok (!p) h := by simp only [x_knot, ha, x_bok]; rfl
variable {lo hi : Option Ex} {u t : Option Int}
theorem q_part0 : ePart none r h = .ok none h := rfl
theorem q_part1 {i : Int} (ha : a r h = .ok (.int i) h) : ePart (some a) r h = .ok (some i) h := by simp only [x_part1, ha, x_bok, x_lift]
theorem q_cutT (ha : a r h = .ok (.tup vs) h) (hl : ePart lo r h = .ok u h) (hh : ePart hi r h = .ok t h) : eCut a lo hi r h = .ok (.tup (cutL vs u t)) h := by
  rw [x_cut, ha]; simp only [isTupR_ok, isTup_tup, if_true, x_slc, ha, x_bok, hl, hh, cut_t, x_lift]
theorem q_slcN (ha : a r h = .ok (.lst vs) h) (hl : ePart lo r h = .ok u h) (hh : ePart hi r h = .ok t h) : eSlc gCutN a lo hi r h = .ok (cutL vs u t) h := by
  simp only [x_slc, ha, x_bok, hl, hh, cut_l, x_lift]
theorem q_slcS (ha : a r h = .ok (.ins 0 vs) h) (hl : ePart lo r h = .ok u h) (hh : ePart hi r h = .ok t h) : eSlc gCutN a lo hi r h = .ok (cutL vs u t) h := by
  simp only [x_slc, ha, x_bok, hl, hh, cut_s, x_lift]
theorem q_cutL (ha : a r h = .ok (.lst vs) h) (hl : ePart lo r h = .ok u h) (hh : ePart hi r h = .ok t h) : eCut a lo hi r h = .ok (.lst (cutL vs u t)) h := by
  rw [x_cut, ha]; simp only [isTupR_ok, isTup_lst, Bool.false_eq_true, if_false]; exact q_frz (q_slcN ha hl hh)
theorem q_cutS (ha : a r h = .ok (.ins 0 vs) h) (hl : ePart lo r h = .ok u h) (hh : ePart hi r h = .ok t h) : eCut a lo hi r h = .ok (.lst (cutL vs u t)) h := by
  rw [x_cut, ha]; simp only [isTupR_ok, isTup_ins, Bool.false_eq_true, if_false]; exact q_frz (q_slcS ha hl hh)
theorem q_revT (ha : a r h = .ok (.tup vs) h) : eRevA a r h = .ok (.tup vs.reverse) h := by unfold eRevA; rw [ha]
theorem q_revL (ha : a r h = .ok (.lst vs) h) : eRevA a r h = .ok (.lst vs.reverse) h := by
  unfold eRevA; rw [ha]; refine q_frz ?_
  unfold eUnN; simp only [ha, x_bok, gRevN, view_lst', x_lift]
theorem q_move {i : Nat} (e : r.getD i none = some (.ref l)) (e2 : h[l]? = some (.lst vs)) : eMove i r h = .ok (.lst vs) (h.set l .non) := by simp only [x_move, e, e2]
/-- a located list, read -/
theorem q_mapR {α : Type} {d : α → Val} {X Y : List α} (e : X = Y) : X.map d = Y.map d := by rw [e]
end

/-! ### what is walked -/
structure SrcIs (ms : Ev → SM Src) (r : Ev) (h : PH) (P : PH → Prop) (its : List Val) : Prop where
  ok : ∃ src, ms r h = .ok src h ∧ ∀ h', P h' → Walks src h' its
abbrev Any : PH → Prop := fun _ => True
/-- at l stands this list -/
abbrev At (l : Nat) (its : List Val) : PH → Prop := fun h => h[l]? = some (.lst its)
section
variable {h : PH} {r : Ev} {a b : Ex} {vs ws : List Val} {P : PH → Prop} {l : Nat}
theorem s_seqT (ha : a r h = .ok (.tup vs) h) : SrcIs (sSeq1 srcSeq a) r h Any vs := ⟨_, by simp only [x_seq1, ha, x_bok]; rfl, fun h' _ => walks_seq (v := .tup vs) rfl⟩
theorem s_seqL (ha : a r h = .ok (.lst vs) h) : SrcIs (sSeq1 srcSeq a) r h Any vs := ⟨_, by simp only [x_seq1, ha, x_bok]; rfl, fun h' _ => walks_seq (v := .lst vs) rfl⟩
theorem s_seqS (ha : a r h = .ok (.ins 0 vs) h) : SrcIs (sSeq1 srcSeq a) r h Any vs := ⟨_, by simp only [x_seq1, ha, x_bok]; rfl, fun h' _ => walks_seq (v := .ins 0 vs) rfl⟩
theorem seqAt_ref (e : h[l]? = some (.lst vs)) : seqAt (.ref l) h = some vs := by simp only [seqAt, e]
theorem s_seqR (ha : a r h = .ok (.ref l) h) (e : h[l]? = some (.lst vs)) : SrcIs (sSeq1 srcSeq a) r h (At l vs) vs := ⟨_, by simp only [x_seq1, ha, x_bok, srcSeq, seqAt_ref e], fun h' e' => walks_seq (seqAt_ref e')⟩
theorem s_revT (ha : a r h = .ok (.tup vs) h) : SrcIs (sSeq1 srcRev a) r h Any vs.reverse := ⟨_, by simp only [x_seq1, ha, x_bok]; rfl, fun h' _ => walks_rev (v := .tup vs) rfl⟩
theorem s_revL (ha : a r h = .ok (.lst vs) h) : SrcIs (sSeq1 srcRev a) r h Any vs.reverse := ⟨_, by simp only [x_seq1, ha, x_bok]; rfl, fun h' _ => walks_rev (v := .lst vs) rfl⟩
theorem s_enT (ha : a r h = .ok (.tup vs) h) : SrcIs (sSeq1 srcEnumA a) r h Any ((pairs vs).map fun p => .ins 1 [.int p.1, p.2]) := ⟨_, by simp only [x_seq1, ha, x_bok]; rfl, fun h' _ => idx_pairs vs ▸ walks_enum (v := .tup vs) rfl⟩
theorem s_enL (ha : a r h = .ok (.lst vs) h) : SrcIs (sSeq1 srcEnumA a) r h Any ((pairs vs).map fun p => .ins 1 [.int p.1, p.2]) := ⟨_, by simp only [x_seq1, ha, x_bok]; rfl, fun h' _ => idx_pairs vs ▸ walks_enum (v := .lst vs) rfl⟩
theorem s_enR (ha : a r h = .ok (.ref l) h) (e : h[l]? = some (.lst vs)) : SrcIs (sSeq1 srcEnumA a) r h (At l vs) ((pairs vs).map fun p => .ins 1 [.int p.1, p.2]) := ⟨_, by simp only [x_seq1, ha, x_bok, srcEnumA, seqAt_ref e], fun h' e' => idx_pairs vs ▸ walks_enum (seqAt_ref e')⟩
theorem s_zipT (ha : a r h = .ok (.tup vs) h) (hb : b r h = .ok (.tup ws) h) : SrcIs (sZip [a, b]) r h Any ((vs.zip ws).map fun p => .ins 1 [p.1, p.2]) := by
  refine ⟨zipSrc (.tup vs) (.tup ws) (min vs.length ws.length), by simp only [x_szip, x_args1, x_args0, ha, hb, x_bok]; rfl, fun h' _ => ?_⟩
  rw [← zip_pairs]; exact walks_zip rfl rfl
theorem s_zipL (ha : a r h = .ok (.lst vs) h) (hb : b r h = .ok (.lst ws) h) : SrcIs (sZip [a, b]) r h Any ((vs.zip ws).map fun p => .ins 1 [p.1, p.2]) := by
  refine ⟨zipSrc (.lst vs) (.lst ws) (min vs.length ws.length), by simp only [x_szip, x_args1, x_args0, ha, hb, x_bok]; rfl, fun h' _ => ?_⟩
  rw [← zip_pairs]; exact walks_zip rfl rfl
end
/-- a range, told -/
@[irreducible] def rngR (i j : Int) : R (List Int) := if decide (-1000000000 ≤ i) && decide (i ≤ 1000000000) && decide (-1000000000 ≤ j) && decide (j ≤ 1000000000) && decide (j - i ≤ 1000000) then .ok (rng2 i j) else .st
theorem rng2_0 (j : Int) : rng2 0 j = rng j := by
  simp only [rng2, rng, Int.sub_zero]
  exact List.map_congr_left fun k _ => by show (0 : Int) + (k : Nat) = (k : Nat); omega
theorem s_rng2 {i j : Int} {h : PH} {r : Ev} {a b : Ex} (ha : a r h = .ok (.int i) h) (hb : b r h = .ok (.int j) h) : ∀ zs, rngR i j = .ok zs → SrcIs (sRng [a, b]) r h Any (zs.map .int) := by
  intro zs e
  unfold rngR at e
  split at e
  · rename_i q
    cases e
    simp only [Bool.and_eq_true, decide_eq_true_eq] at q
    refine ⟨srcUp i (j - i).toNat, ?_, fun h' _ => ?_⟩
    · simp only [x_srng, x_args1, x_args0, ha, hb, x_bok, srcR]
      rw [if_pos]
      simp only [sml, Bool.and_eq_true, decide_eq_true_eq]; omega
    · have := walks_up (lo := i) (n := (j - i).toNat) (h := h')
      rw [rng2, List.map_map]; exact this
  · cases e
theorem s_rng1 {j : Int} {h : PH} {r : Ev} {b : Ex} (hb : b r h = .ok (.int j) h) : ∀ zs, rngR 0 j = .ok zs → SrcIs (sRng [b]) r h Any (zs.map .int) := by
  intro zs e
  unfold rngR at e
  split at e
  · rename_i q
    cases e
    simp only [Bool.and_eq_true, decide_eq_true_eq] at q
    refine ⟨srcUp 0 j.toNat, ?_, fun h' _ => ?_⟩
    · simp only [x_srng, x_args1, x_args0, hb, x_bok, srcR]
      rw [if_pos]
      simp only [sml, Bool.and_eq_true, decide_eq_true_eq]; omega
    · have := walks_up (lo := 0) (n := j.toNat) (h := h')
      rw [rng2, List.map_map, Int.sub_zero]; exact this
  · cases e
/-- downwards -/
def rngD (i j : Int) : List Int := (List.range (i - j).toNat).map fun k => i - (k : Nat)
def rngDR (i j : Int) : R (List Int) := if decide (-1000000000 ≤ i) && decide (i ≤ 1000000000) && decide (-1000000000 ≤ j) && decide (j ≤ 1000000000) && decide (i - j ≤ 1000000) then .ok (rngD i j) else .st
theorem s_rngD {i j : Int} {h : PH} {r : Ev} {a b c : Ex} (ha : a r h = .ok (.int i) h) (hb : b r h = .ok (.int j) h) (hc : c r h = .ok (.int (-1)) h) : ∀ zs, rngDR i j = .ok zs → SrcIs (sRng [a, b, c]) r h Any (zs.map .int) := by
  intro zs e
  unfold rngDR at e
  split at e
  · rename_i q
    cases e
    simp only [Bool.and_eq_true, decide_eq_true_eq] at q
    refine ⟨srcRng i (-1) (i - j).toNat, ?_, fun h' _ => ?_⟩
    · simp only [x_srng, x_args1, x_args0, ha, hb, hc, x_bok, srcR]
      rw [if_pos]
      simp only [sml, Bool.and_eq_true, decide_eq_true_eq]; omega
    · have := walks_down (lo := i) (c := -1) (n := (i - j).toNat) (h := h')
      simp only [rngD, List.map_map]
      have e2 : (Val.int ∘ fun (k : Nat) => i - (k : Int)) = fun (k : Nat) => Val.int (i + (k : Int) * -1) := by
        funext k; simp only [Function.comp]; congr 1; omega
      rw [e2]; exact this
  · cases e
end SW

namespace SW
open PySem

/-! ### comprehensions -/
def mapR {α β : Type} : List α → (α → R β) → R (List β)
  | [], _ => .ok []
  | x :: xs, f => (f x).nx.bind fun y => (mapR xs f).bind fun ys => .ok (y :: ys)
def mapSR {α β S : Type} : List α → S → (S → α → R (Option β × S)) → R (List β × S)
  | [], s, _ => .ok ([], s)
  | x :: xs, s, f => (f s x).nx.bind fun p => (mapSR xs p.2 f).bind fun q => .ok (p.1.toList ++ q.1, q.2)
/-- bounded by the machine -/
def limR {α : Type} (xs : List α) : R (List α) := if xs.length ≤ 1000000 then .ok xs else .st
section
variable {α β S : Type} {ms : Ev → SM Src} {g : TGm} {mt : Option Ex} {ct elt : Ex} {own : List Nat} {r : Ev} {h : PH} {xs : List α} {c : α → Val} {d : β → Val} {E : α → Ev} {P : PH → Prop}
theorem run_okX {γ δ : Type} {x : Res γ} {m : R δ} {V : δ → γ} {Hh : δ → PH} {a : δ} (o : Run x m (Xt V Hh)) (e : m = .ok a) : x = .ok (V a) (Hh a) := by
  subst e; obtain ⟨b, h, e, rfl, rfl⟩ := o; exact e
/-- the loop as a map over what is walked, from heap to heap -/
theorem comp_loop {its : List Val} {src : Src} {body : Ev → SM (List Val)} {Hh : S → PH} {B : S → α → R (List β × S)} {xs : List α}
    (w : ∀ s, Walks src (Hh s) (its ++ xs.map c)) (hb : ∀ s x, x ∈ xs → ∀ p, (B s x).nx = .ok p → (g (c x) (wipeE r own) (Hh s)).noexc.bind (fun r1 h1 => (eTest mt r1 h1).noexc.bind fun b h2 => if b then (body r1 h2).noexc else .ok [] h2) = .ok (p.1.map d) (Hh p.2)) :
    ∀ (s : S) (q : List β × S), (List.foldr (fun x k => fun s => (B s x).nx.bind fun p => (k p.2).bind fun q => R.ok (p.1 ++ q.1, q.2)) (fun s => R.ok (([] : List β), s)) xs) s = .ok q → compLoop src g mt body own xs.length its.length r (Hh s) = .ok (q.1.map d) (Hh q.2) := by
  induction xs generalizing its with
  | nil =>
    intro s q e
    simp only [List.foldr_nil, R.ok.injEq] at e
    subst e
    simp only [List.length_nil, compLoop]
    rw [(w s).fin, if_pos rfl]; rfl
  | cons x xs ih =>
    intro s q e
    simp only [List.foldr_cons] at e
    simp only [List.length_cons]
    unfold compLoop
    have eg : src.get (Hh s) its.length = some (c x) := by
      rw [(w s).get _ (by simp), List.getElem?_append_right (Nat.le_refl _)]; simp
    rw [eg]
    simp only
    cases e1 : (B s x).nx with
    | ex _ => rw [e1] at e; cases e
    | st => rw [e1] at e; cases e
    | ok p =>
      rw [e1] at e
      simp only [R.bind_ok] at e
      have e2 := hb s x (List.mem_cons_self ..) p e1
      cases e3 : (List.foldr (fun x k => fun s => (B s x).nx.bind fun p => (k p.2).bind fun q => R.ok (p.1 ++ q.1, q.2)) (fun s => R.ok (([] : List β), s)) xs) p.2 with
      | ex _ => rw [e3] at e; cases e
      | st => rw [e3] at e; cases e
      | ok q2 =>
        rw [e3] at e
        simp only [R.bind_ok, R.ok.injEq] at e
        subst e
        have ih2 := ih (its := its ++ [c x]) (fun s => by have := w s; simpa using this) (fun s y hy => hb s y (List.mem_cons_of_mem _ hy)) p.2 q2 e3
        rw [List.length_append] at ih2
        simp only [List.length_cons, List.length_nil, Nat.zero_add] at ih2
        cases eg1 : g (c x) (wipeE r own) (Hh s) with
        | stuck => rw [eg1] at e2; cases e2
        | exc _ _ => rw [eg1] at e2; cases e2
        | ok r1 h1 =>
          rw [eg1] at e2
          simp only [x_nok, x_bok] at e2 ⊢
          cases et1 : eTest mt r1 h1 with
          | stuck => rw [et1] at e2; cases e2
          | exc _ _ => rw [et1] at e2; cases e2
          | ok b h2 =>
            rw [et1] at e2
            simp only [x_nok, x_bok] at e2 ⊢
            cases b with
            | true =>
              simp only [if_true] at e2 ⊢
              rw [e2, x_bok, ih2, x_bok, List.map_append]
            | false =>
              simp only [Bool.false_eq_true, if_false] at e2 ⊢
              cases e2' : p.1 with
              | nil =>
                rw [e2'] at e2
                simp only [List.map_nil, Res.ok.injEq, true_and] at e2
                rw [e2, ih2]; simp
              | cons y ys => rw [e2'] at e2; simp at e2
theorem mapSR_fold {B : S → α → R (Option β × S)} : ∀ (xs : List α) (s : S), mapSR xs s B = (List.foldr (fun x k => fun s => ((B s x).bind fun p => R.ok (p.1.toList, p.2)).nx.bind fun p => (k p.2).bind fun q => R.ok (p.1 ++ q.1, q.2)) (fun s => R.ok (([] : List β), s)) xs) s
  | [], _ => rfl
  | x :: xs, s => by
    simp only [mapSR, List.foldr_cons]
    cases e : B s x with
    | ok p => simp only [R.nx_ok, R.bind_ok]; rw [mapSR_fold xs p.2]
    | ex _ => rfl
    | st => rfl
/-- with located objects that go along -/
theorem r_compS {Hh : S → PH} {s0 : S} {B : S → α → R (Option β × S)} {E : α → Ev} (hs : SrcIs ms r (Hh s0) P (xs.map c)) (hP : ∀ s, P (Hh s)) (ht : ∀ s x, g (c x) (wipeE r own) (Hh s) = .ok (E x) (Hh s))
    (hb : ∀ s x, Run ((eTest mt (E x) (Hh s)).bind fun b h2 => if b = true then eOne elt (E x) h2 else .ok [] h2) (B s x) (Xt (fun p => p.1.toList.map d) fun p => Hh p.2)) :
    Run (eComp ms g mt elt own r (Hh s0)) (mapSR xs s0 B) (Xt (fun p => p.1.map d) fun p => Hh p.2) := by
  obtain ⟨src, e1, w⟩ := hs.ok
  unfold eComp
  rw [e1, x_bok, mapSR_fold]
  have key := comp_loop (its := []) (src := src) (g := g) (mt := mt) (body := eOne elt) (own := own) (r := r) (c := c) (d := d) (Hh := Hh) (B := fun s x => (B s x).bind fun p => R.ok (p.1.toList, p.2)) (xs := xs) (fun s => w _ (hP s)) (fun s x _ p ep => by
    rw [ht s x, x_nok, x_bok]
    cases eb : B s x with
    | ex _ => rw [eb] at ep; cases ep
    | st => rw [eb] at ep; cases ep
    | ok p1 =>
      rw [eb] at ep
      simp only [R.bind_ok, R.nx_ok, R.ok.injEq] at ep
      subst ep
      have o := run_okX (hb s x) eb
      cases et : eTest mt (E x) (Hh s) with
      | stuck => rw [et] at o; cases o
      | exc _ _ => rw [et] at o; cases o
      | ok b h2 =>
        rw [et] at o
        simp only [x_nok, x_bok] at o ⊢
        cases b with
        | true => simp only [if_true] at o ⊢; rw [o]; rfl
        | false => simp only [Bool.false_eq_true, if_false] at o ⊢; exact o)
  have hn : src.n = xs.length := by have := (w _ (hP s0)).n; simpa using this
  rw [hn]
  cases e2 : (List.foldr (fun x k => fun s => ((B s x).bind fun p => R.ok (p.1.toList, p.2)).nx.bind fun p => (k p.2).bind fun q => R.ok (p.1 ++ q.1, q.2)) (fun s => R.ok (([] : List β), s)) xs) s0 with
  | ok q =>
    exact ⟨_, _, key s0 q e2, rfl, rfl⟩
  | st => trivial
  | ex v =>
    exfalso
    have : ∀ (xs : List α) (s : S), (List.foldr (fun x k => fun s => ((B s x).bind fun p => R.ok (p.1.toList, p.2)).nx.bind fun p => (k p.2).bind fun q => R.ok (p.1 ++ q.1, q.2)) (fun s => R.ok (([] : List β), s)) xs) s ≠ .ex v := by
      intro xs
      induction xs with
      | nil => intro s z; cases z
      | cons x xs ih =>
        intro s z
        simp only [List.foldr_cons] at z
        cases e1 : ((B s x).bind fun p => R.ok (p.1.toList, p.2)).nx with
        | ok p =>
          rw [e1] at z; simp only [R.bind_ok] at z
          cases e3 : (List.foldr (fun x k => fun s => ((B s x).bind fun p => R.ok (p.1.toList, p.2)).nx.bind fun p => (k p.2).bind fun q => R.ok (p.1 ++ q.1, q.2)) (fun s => R.ok (([] : List β), s)) xs) p.2 with
          | ok q => rw [e3] at z; cases z
          | ex w => rw [e3] at z; cases z; exact ih _ e3
          | st => rw [e3] at z; cases z
        | ex w =>
          cases e4 : (B s x).bind fun p => R.ok (p.1.toList, p.2) with
          | ok _ => rw [e4] at e1; cases e1
          | ex _ => rw [e4] at e1; cases e1
          | st => rw [e4] at e1; cases e1
        | st => rw [e1] at z; cases z
    exact this xs s0 e2
theorem mapSR_unit {F : α → R β} : ∀ xs : List α, mapSR xs () (fun _ x => (F x).bind fun y => R.ok (some y, ())) = (mapR xs F).bind fun ys => R.ok (ys, ())
  | [] => rfl
  | x :: xs => by
    simp only [mapSR, mapR, mapSR_unit xs]
    cases F x with
    | ok y =>
      simp only [R.bind_ok, R.nx_ok]
      cases mapR xs F <;> rfl
    | ex _ => rfl
    | st => rfl
theorem run_map {γ δ ε : Type} {x : Res γ} {m : R δ} {k : δ → ε} {V : ε → γ} {Hh : ε → PH} (o : Run x (m.bind fun a => .ok (k a)) (Xt V Hh)) : Run x m (Xt (fun a => V (k a)) fun a => Hh (k a)) := by
  cases m <;> exact o
theorem r_comp {F : α → R β} (hs : SrcIs ms r h P (xs.map c)) (hP : P h) (ht : ∀ x, g (c x) (wipeE r own) h = .ok (E x) h) (he : ∀ x, Run (elt (E x) h) (F x) (Xt d fun _ => h)) :
    Run (eComp ms g none elt own r h) (mapR xs F) (Xt (fun ys => ys.map d) fun _ => h) := by
  refine run_map (k := fun ys => (ys, ())) (V := fun p : List β × Unit => p.1.map d) (Hh := fun _ => h) ?_
  rw [← mapSR_unit]
  exact r_compS (s0 := ()) (Hh := fun _ => h) hs (fun _ => hP) (fun _ x => ht x) fun _ x => by
    show Run (eOne elt (E x) h) _ _
    exact run_bind (he x) fun a b h' ⟨e1, e2⟩ => run_ret ⟨by rw [e1]; rfl, e2⟩
theorem mapSR_filt {F : α → R β} {p : α → Bool} : ∀ xs : List α, mapSR xs () (fun _ x => if p x = true then (F x).bind fun y => R.ok (some y, ()) else .ok (none, ())) = (mapR (xs.filter p) F).bind fun ys => R.ok (ys, ())
  | [] => rfl
  | x :: xs => by
    simp only [mapSR, List.filter_cons]
    cases e : p x with
    | true =>
      simp only [if_true, mapR, mapSR_filt xs]
      cases F x with
      | ok y =>
        simp only [R.bind_ok, R.nx_ok]
        cases mapR (xs.filter p) F <;> rfl
      | ex _ => rfl
      | st => rfl
    | false =>
      simp only [Bool.false_eq_true, if_false, R.nx_ok, R.bind_ok, mapSR_filt xs]
      cases mapR (xs.filter p) F <;> rfl
theorem r_compF {F : α → R β} {p : α → Bool} (hs : SrcIs ms r h P (xs.map c)) (hP : P h) (ht : ∀ x, g (c x) (wipeE r own) h = .ok (E x) h) (hc : ∀ x, (ct (E x) h).bind truthM = .ok (p x) h) (he : ∀ x, Run (elt (E x) h) (F x) (Xt d fun _ => h)) :
    Run (eComp ms g (some ct) elt own r h) (mapR (xs.filter p) F) (Xt (fun ys => ys.map d) fun _ => h) := by
  refine run_map (k := fun ys => (ys, ())) (V := fun p : List β × Unit => p.1.map d) (Hh := fun _ => h) ?_
  rw [← mapSR_filt]
  exact r_compS (s0 := ()) (Hh := fun _ => h) hs (fun _ => hP) (fun _ x => ht x) fun _ x => by
    show Run (((ct (E x) h).bind truthM).bind _) _ _
    rw [hc x, x_bok]
    cases p x with
    | true => exact run_bind (he x) fun a b h' ⟨e1, e2⟩ => run_ret ⟨by rw [e1]; rfl, e2⟩
    | false => exact run_ret ⟨rfl, rfl⟩
theorem mapR_ok {F : α → R β} {G : α → β} : ∀ {xs : List α}, (∀ x ∈ xs, F x = .ok (G x)) → mapR xs F = .ok (xs.map G)
  | [], _ => rfl
  | x :: xs, h => by
    simp only [mapR, h x (List.mem_cons_self ..), R.nx_ok, R.bind_ok, mapR_ok fun y hy => h y (List.mem_cons_of_mem _ hy)]; rfl
@[simp] theorem mapR_pure {G : α → β} {xs : List α} : mapR xs (fun x => .ok (G x)) = .ok (xs.map G) := mapR_ok fun _ _ => rfl
theorem q_comp {F : α → β} (hs : SrcIs ms r h P (xs.map c)) (hP : P h) (ht : ∀ x, g (c x) (wipeE r own) h = .ok (E x) h) (he : ∀ x, elt (E x) h = .ok (d (F x)) h) : eComp ms g none elt own r h = .ok ((xs.map F).map d) h :=
  run_okX (r_comp (F := fun x => .ok (F x)) hs hP ht fun x => ⟨_, _, he x, rfl, rfl⟩) mapR_pure
theorem q_compF {F : α → β} {p : α → Bool} (hs : SrcIs ms r h P (xs.map c)) (hP : P h) (ht : ∀ x, g (c x) (wipeE r own) h = .ok (E x) h) (hc : ∀ x, (ct (E x) h).bind truthM = .ok (p x) h) (he : ∀ x, elt (E x) h = .ok (d (F x)) h) : eComp ms g (some ct) elt own r h = .ok (((xs.filter p).map F).map d) h :=
  run_okX (r_compF (F := fun x => .ok (F x)) hs hP ht hc fun x => ⟨_, _, he x, rfl, rfl⟩) mapR_pure
/-- two levels -/
def flatR {α β : Type} (xs : List α) (f : α → R (List β)) : R (List β) := (mapR xs f).bind fun yss => limR yss.flatten
theorem fold_flat {F : α → R (List β)} : ∀ xs : List α, (List.foldr (fun x k => fun (s : Unit) => ((F x).bind fun ys => R.ok (ys, ())).nx.bind fun p => (k p.2).bind fun q => R.ok (p.1 ++ q.1, q.2)) (fun s => R.ok (([] : List β), s)) xs) () = (mapR xs F).bind fun yss => R.ok (yss.flatten, ())
  | [] => rfl
  | x :: xs => by
    simp only [List.foldr_cons, mapR]
    cases F x with
    | ok y =>
      simp only [R.bind_ok, R.nx_ok, fold_flat xs]
      cases mapR xs F <;> rfl
    | ex _ => rfl
    | st => rfl
theorem mapR_nex {F : α → R β} : ∀ (xs : List α) (v : Val), mapR xs F ≠ .ex v
  | [], v, z => by cases z
  | x :: xs, v, z => by
    simp only [mapR] at z
    cases e : F x with
    | ok y =>
      rw [e] at z; simp only [R.nx_ok, R.bind_ok] at z
      cases e2 : mapR xs F with
      | ok _ => rw [e2] at z; cases z
      | ex w => exact mapR_nex xs w e2
      | st => rw [e2] at z; cases z
    | ex _ => rw [e] at z; cases z
    | st => rw [e] at z; cases z
theorem r_comp2 {ms1 : Ev → SM Src} {g1 : TGm} {mt1 : Option Ex} {own1 : List Nat} {F : α → R (List β)} (hs : SrcIs ms r h P (xs.map c)) (hP : P h) (ht : ∀ x, g (c x) (wipeE r own) h = .ok (E x) h)
    (he : ∀ x, Run (eIn ms1 g1 mt1 elt own1 (E x) h) (F x) (Xt (fun ys => ys.map d) fun _ => h)) : Run (eComp2 ms g none ms1 g1 mt1 elt own own1 r h) (flatR xs F) (Xt (fun ys => ys.map d) fun _ => h) := by
  obtain ⟨src, e1, w⟩ := hs.ok
  unfold eComp2
  rw [e1, x_bok]
  have hn : src.n = xs.length := by have := (w _ hP).n; simpa using this
  rw [hn]
  unfold flatR
  cases e2 : mapR xs F with
  | st => trivial
  | ex v => exact absurd e2 (mapR_nex xs v)
  | ok yss =>
    have key := comp_loop (its := []) (src := src) (g := g) (mt := none) (body := eIn ms1 g1 mt1 elt own1) (own := own) (r := r) (c := c) (d := d) (Hh := fun (_ : Unit) => h) (B := fun _ x => (F x).bind fun ys => R.ok (ys, ())) (xs := xs) (fun s => w _ hP) (fun s x _ p ep => by
      rw [ht x, x_nok, x_bok]
      cases eb : F x with
      | ex _ => rw [eb] at ep; cases ep
      | st => rw [eb] at ep; cases ep
      | ok p1 =>
        rw [eb] at ep
        simp only [R.bind_ok, R.nx_ok, R.ok.injEq] at ep
        subst ep
        have o := run_okX (he x) eb
        simp only [x_test0, x_nok, x_bok, if_true, o]) () (yss.flatten, ()) (by rw [fold_flat, e2]; rfl)
    have key : compLoop src g none (eIn ms1 g1 mt1 elt own1) own xs.length 0 r h = .ok (yss.flatten.map d) h := key
    rw [key, x_bok, R.bind_ok]
    rw [List.length_map]
    by_cases q : yss.flatten.length ≤ 1000000
    · rw [show limR yss.flatten = .ok yss.flatten from if_pos q, if_pos q]; exact ⟨_, _, rfl, rfl, rfl⟩
    · rw [show limR yss.flatten = .st from if_neg q]; trivial
theorem r_comp2F {ct0 : Ex} {p : α → Bool} {ms1 : Ev → SM Src} {g1 : TGm} {mt1 : Option Ex} {own1 : List Nat} {F : α → R (List β)} (hs : SrcIs ms r h P (xs.map c)) (hP : P h) (ht : ∀ x, g (c x) (wipeE r own) h = .ok (E x) h) (hc : ∀ x, (ct0 (E x) h).bind truthM = .ok (p x) h)
    (he : ∀ x, Run (eIn ms1 g1 mt1 elt own1 (E x) h) (F x) (Xt (fun ys => ys.map d) fun _ => h)) : Run (eComp2 ms g (some ct0) ms1 g1 mt1 elt own own1 r h) (flatR xs fun x => if p x = true then F x else .ok []) (Xt (fun ys => ys.map d) fun _ => h) := by
  obtain ⟨src, e1, w⟩ := hs.ok
  unfold eComp2
  rw [e1, x_bok]
  have hn : src.n = xs.length := by have := (w _ hP).n; simpa using this
  rw [hn]
  unfold flatR
  cases e2 : mapR xs fun x => if p x = true then F x else .ok [] with
  | st => trivial
  | ex v => exact absurd e2 (mapR_nex xs v)
  | ok yss =>
    have key := comp_loop (its := []) (src := src) (g := g) (mt := some ct0) (body := eIn ms1 g1 mt1 elt own1) (own := own) (r := r) (c := c) (d := d) (Hh := fun (_ : Unit) => h) (B := fun _ x => (if p x = true then F x else .ok []).bind fun ys => R.ok (ys, ())) (xs := xs) (fun s => w _ hP) (fun s x _ p2 ep => by
      rw [ht x, x_nok, x_bok, x_test1, hc x, x_nok, x_bok]
      cases ec : p x with
      | true =>
        rw [ec] at ep
        simp only [if_true] at ep ⊢
        cases eb : F x with
        | ex _ => rw [eb] at ep; cases ep
        | st => rw [eb] at ep; cases ep
        | ok p1 =>
          rw [eb] at ep
          simp only [R.bind_ok, R.nx_ok, R.ok.injEq] at ep
          subst ep
          have o := run_okX (he x) eb
          simp only [o, x_nok]
      | false =>
        rw [ec] at ep
        simp only [Bool.false_eq_true, if_false, R.bind_ok, R.nx_ok, R.ok.injEq] at ep ⊢
        subst ep; rfl) () (yss.flatten, ()) (by rw [fold_flat, e2]; rfl)
    have key : compLoop src g (some ct0) (eIn ms1 g1 mt1 elt own1) own xs.length 0 r h = .ok (yss.flatten.map d) h := key
    rw [key, x_bok, R.bind_ok]
    rw [List.length_map]
    by_cases q : yss.flatten.length ≤ 1000000
    · rw [show limR yss.flatten = .ok yss.flatten from if_pos q, if_pos q]; exact ⟨_, _, rfl, rfl, rfl⟩
    · rw [show limR yss.flatten = .st from if_neg q]; trivial
end
theorem rngR_nex {i j : Int} (v : Val) : rngR i j ≠ .ex v := by unfold rngR; split <;> exact fun z => by cases z
theorem rngDR_nex {i j : Int} (v : Val) : rngDR i j ≠ .ex v := by unfold rngDR; split <;> exact fun z => by cases z
theorem c_rng {α β : Type} {Q : α → β → PH → Prop} {x : Res β} {i j : Int} {k : List Int → R α} {S : List Int → Prop} (hs : ∀ zs, rngR i j = .ok zs → S zs) (n : ∀ zs, S zs → Run x (k zs) Q) : Run x ((rngR i j).bind k) Q := by
  cases e : rngR i j with
  | ok zs => exact n zs (hs zs e)
  | ex v => exact absurd e (rngR_nex v)
  | st => trivial
theorem c_rngD {α β : Type} {Q : α → β → PH → Prop} {x : Res β} {i j : Int} {k : List Int → R α} {S : List Int → Prop} (hs : ∀ zs, rngDR i j = .ok zs → S zs) (n : ∀ zs, S zs → Run x (k zs) Q) : Run x ((rngDR i j).bind k) Q := by
  cases e : rngDR i j with
  | ok zs => exact n zs (hs zs e)
  | ex v => exact absurd e (rngDR_nex v)
  | st => trivial

/-! ### loops -/
inductive Lp (S α : Type) : Type where
  | nx (s : S)
  | bk (s : S)
  | rt (a : α)
def Lp.on {S β α : Type} (l : Lp S β) (k : S → R α) (kr : β → R α) : R α := match l with
  | .nx s => k s
  | .bk s => k s
  | .rt a => kr a
def onO {α β : Type} (o : Option α) (n : β) (s : α → β) : β := match o with
  | none => n
  | some a => s a
@[simp] theorem Lp.on_nx {S β α : Type} (s : S) (k : S → R α) (kr : β → R α) : (Lp.nx s).on k kr = k s := hide rfl
@[simp] theorem Lp.on_bk {S β α : Type} (s : S) (k : S → R α) (kr : β → R α) : (Lp.bk s).on k kr = k s := hide rfl
@[simp] theorem Lp.on_rt {S β α : Type} (a : β) (k : S → R α) (kr : β → R α) : (Lp.rt a).on k kr = kr a := hide rfl
@[simp] theorem onO_n {α β : Type} (n : β) (s : α → β) : onO none n s = n := hide rfl
@[simp] theorem onO_s {α β : Type} (a : α) (n : β) (s : α → β) : onO (some a) n s = s a := hide rfl
def foldR {α S : Type} : List α → S → (S → α → R S) → R S
  | [], s, _ => .ok s
  | x :: xs, s, f => (f s x).bind fun s2 => foldR xs s2 f
def loopR {α S β : Type} : List α → S → (S → α → R (Lp S β)) → R (Lp S β)
  | [], s, _ => .ok (.nx s)
  | x :: xs, s, f => (f s x).bind fun l => match l with
    | .nx s2 => loopR xs s2 f
    | .bk s2 => .ok (.nx s2)
    | .rt a => .ok (.rt a)
/-- the most turns of a while, kept folded -/
def trn (n : Nat) : Nat := if n = 0 then 1000000 else trn (n - 1)
termination_by n
theorem trn0 : trn 0 = 1000000 := by rw [trn]; rfl
def whR {S : Type} : Nat → (S → R Bool) → (S → R S) → S → R S
  | 0, _, _, _ => .st
  | n + 1, c, f, s => (c s).bind fun b => if b = true then (f s).bind fun s2 => whR n c f s2 else .ok s
def whLR {S β : Type} : Nat → (S → R Bool) → (S → R (Lp S β)) → S → R (Lp S β)
  | 0, _, _, _ => .st
  | n + 1, c, f, s => (c s).bind fun b => if b = true then (f s).bind fun l => (match l with
    | .nx s2 => whLR n c f s2
    | .bk s2 => .ok (.nx s2)
    | .rt a => .ok (.rt a)) else .ok (.nx s)
section
variable {α S β : Type} {ms : Ev → SM Src} {g : TGm} {b : Stm} {c : Ex} {r : Ev} {h : PH} {xs : List α} {ca : α → Val} {P : PH → Prop} {E : S → Ev} {Hh : S → PH} {s0 : S}
/-- what a turn ends in -/
def QL (E : S → Ev) (Hh : S → PH) : S → Fl → PH → Prop := fun s f h => (f = .nx (E s) ∨ f = .ct (E s)) ∧ h = Hh s
def QLp (E : S → Ev) (Hh : S → PH) (V : β → Val) (HR : β → PH → Prop) : Lp S β → Fl → PH → Prop := fun l f h => match l with
  | .nx s => (f = .nx (E s) ∨ f = .ct (E s)) ∧ h = Hh s
  | .bk s => f = .bk (E s) ∧ h = Hh s
  | .rt a => f = .rt (V a) ∧ HR a h
def QLr (E : S → Ev) (Hh : S → PH) (V : β → Val) (HR : β → PH → Prop) : Lp S β → Fl → PH → Prop := fun l f h => match l with
  | .nx s => f = .nx (E s) ∧ h = Hh s
  | .bk _ => False
  | .rt a => f = .rt (V a) ∧ HR a h
theorem for_loop {V : β → Val} {HR : β → PH → Prop} {src : Src} {B : S → α → R (Lp S β)} (hb : ∀ s x, Run ((g (ca x) (E s) (Hh s)).bind fun r1 h1 => b r1 h1) (B s x) (QLp E Hh V HR)) : ∀ {xs : List α} {its : List Val} (s : S), (∀ s, Walks src (Hh s) (its ++ xs.map ca)) →
    Run (forLoop src g b xs.length its.length (E s) (Hh s)) (loopR xs s B) (QLr E Hh V HR)
  | [], its, s, w => by
    simp only [List.length_nil, forLoop]
    rw [(w s).fin, if_pos rfl]
    exact run_ret ⟨rfl, rfl⟩
  | x :: xs, its, s, w => by
    simp only [List.length_cons]
    unfold forLoop
    have eg : src.get (Hh s) its.length = some (ca x) := by
      rw [(w s).get _ (by simp), List.getElem?_append_right (Nat.le_refl _)]; simp
    rw [eg]
    simp only [loopR]
    rw [← bind_assoc]
    refine run_bind (hb s x) fun l f h' q => ?_
    have ih := fun s => for_loop (its := its ++ [ca x]) (xs := xs) hb s (fun s => by have := w s; simpa using this)
    rw [List.length_append] at ih
    simp only [List.length_cons, List.length_nil, Nat.zero_add] at ih
    cases l with
    | nx s2 =>
      obtain ⟨e1 | e1, e2⟩ := q
      · subst e1 e2; exact ih s2
      · subst e1 e2; exact ih s2
    | bk s2 => obtain ⟨e1, e2⟩ := q; subst e1 e2; exact run_ret ⟨rfl, rfl⟩
    | rt a => obtain ⟨e1, e2⟩ := q; subst e1; exact run_ret ⟨rfl, e2⟩
theorem r_forL {V : β → Val} {HR : β → PH → Prop} {B : S → α → R (Lp S β)} (hs : SrcIs ms r h P (xs.map ca)) (er : r = E s0) (eh : h = Hh s0) (hP : ∀ s, P (Hh s)) (hb : ∀ s x, Run ((g (ca x) (E s) (Hh s)).bind fun r1 h1 => b r1 h1) (B s x) (QLp E Hh V HR)) :
    Run (sFor ms g b r h) (loopR xs s0 B) (QLr E Hh V HR) := by
  subst er eh
  obtain ⟨src, e1, w⟩ := hs.ok
  rw [x_sfor, e1, x_bok]
  have hn : src.n = xs.length := by have := (w _ (hP s0)).n; simpa using this
  rw [hn]
  exact for_loop (its := []) hb s0 fun s => w _ (hP s)
theorem loopR_fold {B : S → α → R S} : ∀ (xs : List α) (s : S), loopR xs s (fun s x => (B s x).bind fun s => R.ok (Lp.nx (α := Empty) s)) = (foldR xs s B).bind fun s => .ok (.nx s)
  | [], _ => rfl
  | x :: xs, s => by
    simp only [loopR, foldR]
    cases B s x with
    | ok s2 => simp only [R.bind_ok, loopR_fold xs s2]
    | ex _ => rfl
    | st => rfl
theorem r_for {B : S → α → R S} (hs : SrcIs ms r h P (xs.map ca)) (er : r = E s0) (eh : h = Hh s0) (hP : ∀ s, P (Hh s)) (hb : ∀ s x, Run ((g (ca x) (E s) (Hh s)).bind fun r1 h1 => b r1 h1) (B s x) (QL E Hh)) :
    Run (sFor ms g b r h) (foldR xs s0 B) (Xt (fun s => .nx (E s)) Hh) := by
  have k := r_forL (β := Empty) (V := fun z => nomatch z) (HR := fun _ _ => False) (B := fun s x => (B s x).bind fun s => R.ok (Lp.nx (α := Empty) s)) hs er eh hP fun s x => by
    have o := hb s x
    cases e : B s x with
    | ok s2 => rw [e] at o; exact o
    | ex _ => rw [e] at o; exact o
    | st => trivial
  rw [loopR_fold] at k
  cases e : foldR xs s0 B with
  | ok s2 => rw [e] at k; exact k
  | ex _ => rw [e] at k; exact k
  | st => trivial
theorem wh_loop {V : β → Val} {HR : β → PH → Prop} {C : S → R Bool} {B : S → R (Lp S β)} (hc : ∀ s, Run ((c (E s) (Hh s)).bind truthM) (C s) (Xt id fun _ => Hh s)) (hb : ∀ s, Run (b (E s) (Hh s)) (B s) (QLp E Hh V HR)) : ∀ (n : Nat) (s : S),
    Run (whLoop c b n (E s) (Hh s)) (whLR n C B s) (QLr E Hh V HR)
  | 0, s => trivial
  | n + 1, s => by
    simp only [whLR]
    unfold whLoop
    refine run_bind (hc s) fun k k2 h' ⟨e1, e2⟩ => ?_
    have e1 : k2 = k := e1
    subst e1 e2
    cases k2 with
    | false => exact run_ret ⟨rfl, rfl⟩
    | true =>
      simp only [if_true]
      refine run_bind (hb s) fun l f h' q => ?_
      cases l with
      | nx s2 =>
        obtain ⟨e1 | e1, e2⟩ := q
        · subst e1 e2; exact wh_loop hc hb n s2
        · subst e1 e2; exact wh_loop hc hb n s2
      | bk s2 => obtain ⟨e1, e2⟩ := q; subst e1 e2; exact run_ret ⟨rfl, rfl⟩
      | rt a => obtain ⟨e1, e2⟩ := q; subst e1; exact run_ret ⟨rfl, e2⟩
theorem r_whL {V : β → Val} {HR : β → PH → Prop} {C : S → R Bool} {B : S → R (Lp S β)} (er : r = E s0) (eh : h = Hh s0) (hc : ∀ s, Run ((c (E s) (Hh s)).bind truthM) (C s) (Xt id fun _ => Hh s)) (hb : ∀ s, Run (b (E s) (Hh s)) (B s) (QLp E Hh V HR)) :
    Run (sWh c b r h) (whLR (trn 0) C B s0) (QLr E Hh V HR) := by
  subst er eh; rw [trn0]; exact wh_loop hc hb turns s0
theorem whR_L {C : S → R Bool} {B : S → R S} : ∀ (n : Nat) (s : S), whLR n C (fun s => (B s).bind fun s => R.ok (Lp.nx (α := Empty) s)) s = (whR n C B s).bind fun s => .ok (.nx s)
  | 0, _ => rfl
  | n + 1, s => by
    simp only [whLR, whR]
    cases C s with
    | ok k =>
      simp only [R.bind_ok]
      cases k with
      | true =>
        simp only [if_true]
        cases B s with
        | ok s2 => simp only [R.bind_ok, whR_L n s2]
        | ex _ => rfl
        | st => rfl
      | false => rfl
    | ex _ => rfl
    | st => rfl
theorem r_wh {C : S → R Bool} {B : S → R S} (er : r = E s0) (eh : h = Hh s0) (hc : ∀ s, Run ((c (E s) (Hh s)).bind truthM) (C s) (Xt id fun _ => Hh s)) (hb : ∀ s, Run (b (E s) (Hh s)) (B s) (QL E Hh)) :
    Run (sWh c b r h) (whR (trn 0) C B s0) (Xt (fun s => .nx (E s)) Hh) := by
  have k := r_whL (β := Empty) (V := fun z => nomatch z) (HR := fun _ _ => False) (C := C) (B := fun s => (B s).bind fun s => R.ok (Lp.nx (α := Empty) s)) er eh hc fun s => by
    have o := hb s
    cases e : B s with
    | ok s2 => rw [e] at o; exact o
    | ex _ => rw [e] at o; exact o
    | st => trivial
  rw [whR_L] at k
  cases e : whR (trn 0) C B s0 with
  | ok s2 => rw [e] at k; exact k
  | ex _ => rw [e] at k; exact k
  | st => trivial
end
section
variable {α β S : Type} {Q : α → Val → PH → Prop} {r r' : Ev} {h h' : PH} {M : R α}
/-! ### statements -/
variable {γ : Type} {Q : α → γ → PH → Prop} {F : Fl → SM γ} {a b : Stm} {e c : Ex}
/-- b behind -/
def thn (b : Stm) (F : Fl → SM γ) : Fl → SM γ := fun f h => match f with
  | .nx r1 => (b r1 h).bind F
  | f => F f h
theorem s_seq (o : Run ((a r h).bind (thn b F)) M Q) : Run ((sSeq a b r h).bind F) M Q := by
  refine c_eq ?_ o
  unfold sSeq; rw [bind_assoc]
  congr 1; funext f h1
  cases f <;> rfl
theorem n_nx {f : Fl} (ef : Fl.nx r = f) (er : r = r') (eh : h = h') (o : Run (F (.nx r') h') M Q) : Run (F f h) M Q := by subst ef er eh; exact o
theorem n_thn (o : Run ((b r h).bind F) M Q) : Run (thn b F (.nx r) h) M Q := o
theorem n_rt {v : Val} (o : Run (F (.rt v) h) M Q) : Run (thn b F (.rt v) h) M Q := o
theorem n_bk (o : Run (F (.bk r) h) M Q) : Run (thn b F (.bk r) h) M Q := o
theorem n_ct (o : Run (F (.ct r) h) M Q) : Run (thn b F (.ct r) h) M Q := o
theorem s_nil (o : Run (F (.nx r) h) M Q) : Run ((sNil r h).bind F) M Q := o
theorem s_brk (o : Run (F (.bk r) h) M Q) : Run ((sBrk r h).bind F) M Q := o
theorem s_cnt (o : Run (F (.ct r) h) M Q) : Run ((sCnt r h).bind F) M Q := o
theorem s_stuck : Run ((sStuck r h).bind F) (.st : R α) Q := trivial
theorem c_stuck {f : Val → SM γ} : Run ((eStuck r h).bind f) (.st : R α) Q := trivial
theorem s_asg {g : TGm} (o : Run ((e r h).bind fun v h1 => (g v r h1).bind fun r1 h2 => F (.nx r1) h2) M Q) : Run ((sAsg e g r h).bind F) M Q := by
  unfold sAsg; simp only [bind_assoc]; exact o
theorem g_set {i : Nat} {v : Val} {f : Ev → SM γ} (o : Run (f (r.set i (some v)) h) M Q) : Run ((gSet i v r h).bind f) M Q := o
theorem g_ok {g : TGm} {v : Val} {f : Ev → SM γ} (e : g v r h = .ok r' h) (o : Run (f r' h) M Q) : Run ((g v r h).bind f) M Q := by rw [e]; exact o
theorem s_ret (o : Run ((e r h).bind fun v h1 => F (.rt v) h1) M Q) : Run ((sRet e r h).bind F) M Q := by
  unfold sRet; simp only [bind_assoc]; exact o
theorem s_retN (o : Run (F (.rt .non) h) M Q) : Run ((sRetN r h).bind F) M Q := o
theorem s_expr (o : Run ((e r h).bind fun _ h1 => F (.nx r) h1) M Q) : Run ((sExpr e r h).bind F) M Q := by
  unfold sExpr; simp only [bind_assoc]; exact o
theorem s_if (o : Run (((c r h).bind truthM).bind fun k h1 => if k = true then (a r h1).bind F else (b r h1).bind F) M Q) : Run ((sIf c a b r h).bind F) M Q := by
  refine c_eq ?_ o
  unfold sIf; rw [bind_assoc]
  congr 1; funext k h1
  cases k <;> rfl
def two {γ : Type} (vs : List Val) (f : Val → Val → Res γ) : Res γ := match vs with | [v, w] => f v w | _ => .stuck
def three {γ : Type} (vs : List Val) (f : Val → Val → Val → Res γ) : Res γ := match vs with | [u, v, w] => f u v w | _ => .stuck
theorem n_two {v w : Val} {f : Val → Val → Res γ} (o : Run (f v w) M Q) : Run (two [v, w] f) M Q := o
theorem n_three {u v w : Val} {f : Val → Val → Val → Res γ} (o : Run (f u v w) M Q) : Run (three [u, v, w] f) M Q := o
theorem s_par {i j : Nat} {ms : List Ex} (o : Run ((eArgs ms r h).bind fun vs h1 => two vs fun v w => F (.nx ((r.set i (some v)).set j (some w))) h1) M Q) : Run ((sPar i j ms r h).bind F) M Q := by
  refine c_eq ?_ o
  unfold sPar; rw [bind_assoc]
  congr 1; funext vs h1
  match vs with
  | [] => rfl
  | [_] => rfl
  | [_, _] => rfl
  | _ :: _ :: _ :: _ => rfl
theorem s_par3 {i j l : Nat} {ms : List Ex} (o : Run ((eArgs ms r h).bind fun vs h1 => three vs fun u v w => F (.nx (((r.set i (some u)).set j (some v)).set l (some w))) h1) M Q) : Run ((sPar3 i j l ms r h).bind F) M Q := by
  refine c_eq ?_ o
  unfold sPar3; rw [bind_assoc]
  congr 1; funext vs h1
  match vs with
  | [] => rfl
  | [_] => rfl
  | [_, _] => rfl
  | [_, _, _] => rfl
  | _ :: _ :: _ :: _ :: _ => rfl
theorem s_aug {i : Nat} {gg : PH → Val → Val → Option Val} (o : Run ((eVar i r h).bind fun x h1 => (e r h1).bind fun y h2 => (lift (gg h2 x y) h2).bind fun z h3 => F (.nx (r.set i (some z))) h3) M Q) : Run ((sAug i gg e r h).bind F) M Q := by
  unfold sAug; simp only [bind_assoc]; exact o
theorem s_pre {ws : List Nat} (er : wipeE r ws = r') (o : Run ((a r' h).bind F) M Q) : Run ((sPre ws a r h).bind F) M Q := by subst er; exact o
/-- wiped behind -/
def wpd (ws : List Nat) (F : Fl → SM γ) : Fl → SM γ := fun f h => match f with
  | .nx r => F (.nx (wipeE r ws)) h
  | .ct r => F (.ct (wipeE r ws)) h
  | .bk r => F (.bk (wipeE r ws)) h
  | .rt v => F (.rt v) h
theorem s_wipe {ws : List Nat} (o : Run ((a r h).bind (wpd ws F)) M Q) : Run ((sWipe ws a r h).bind F) M Q := by
  refine c_eq ?_ o
  unfold sWipe; rw [bind_assoc]
  congr 1; funext f h1
  cases f <;> rfl
theorem w_nx {ws : List Nat} (er : wipeE r ws = r') (o : Run (F (.nx r') h) M Q) : Run (wpd ws F (.nx r) h) M Q := by subst er; exact o
theorem w_ct {ws : List Nat} (er : wipeE r ws = r') (o : Run (F (.ct r') h) M Q) : Run (wpd ws F (.ct r) h) M Q := by subst er; exact o
theorem w_bk {ws : List Nat} (er : wipeE r ws = r') (o : Run (F (.bk r') h) M Q) : Run (wpd ws F (.bk r) h) M Q := by subst er; exact o
theorem w_rt {ws : List Nat} {v : Val} (o : Run (F (.rt v) h) M Q) : Run (wpd ws F (.rt v) h) M Q := o
/-- new located objects dropped behind -/
def scp (n : Nat) (F : Fl → SM γ) : Fl → SM γ := fun f h' => match f with
  | .nx r' => if belE n r' then (match cutH n h' with | some h2 => F (.nx r') h2 | none => .stuck) else .stuck
  | .ct r' => if belE n r' then (match cutH n h' with | some h2 => F (.ct r') h2 | none => .stuck) else .stuck
  | .bk r' => if belE n r' then (match cutH n h' with | some h2 => F (.bk r') h2 | none => .stuck) else .stuck
  | .rt v => F (.rt v) h'
theorem s_scope {n : Nat} (en : h.length = n) (o : Run ((a r h).bind (scp n F)) M Q) : Run ((sScope a r h).bind F) M Q := by
  subst en
  refine c_eq ?_ o
  unfold sScope; rw [bind_assoc]
  congr 1; funext f h1
  cases f with
  | rt v => rfl
  | nx r' => simp only [scp, x_bok]; cases belE h.length r' <;> cases cutH h.length h1 <;> rfl
  | ct r' => simp only [scp, x_bok]; cases belE h.length r' <;> cases cutH h.length h1 <;> rfl
  | bk r' => simp only [scp, x_bok]; cases belE h.length r' <;> cases cutH h.length h1 <;> rfl
theorem cutH_ok {n : Nat} {h2 : PH} (hl : n ≤ h.length) (ht : h.take n = h2) (hb : belows n h2 = true) : cutH n h = some h2 := by
  subst ht; unfold cutH; rw [if_pos (by simp [hl, hb])]
theorem z_nx {n : Nat} {h2 : PH} (hb : belE n r = true) (hc : cutH n h = some h2) (o : Run (F (.nx r) h2) M Q) : Run (scp n F (.nx r) h) M Q := by
  unfold scp; simp only [hb, hc, if_true]; exact o
theorem z_ct {n : Nat} {h2 : PH} (hb : belE n r = true) (hc : cutH n h = some h2) (o : Run (F (.ct r) h2) M Q) : Run (scp n F (.ct r) h) M Q := by
  unfold scp; simp only [hb, hc, if_true]; exact o
theorem z_bk {n : Nat} {h2 : PH} (hb : belE n r = true) (hc : cutH n h = some h2) (o : Run (F (.bk r) h2) M Q) : Run (scp n F (.bk r) h) M Q := by
  unfold scp; simp only [hb, hc, if_true]; exact o
theorem z_rt {n : Nat} {v : Val} (o : Run (F (.rt v) h) M Q) : Run (scp n F (.rt v) h) M Q := o
/-- a loop with ends of its own -/
theorem c_loop {V : β → Val} {HR : β → PH → Prop} {E : S → Ev} {Hh : S → PH} {x : Res Fl} {m : R (Lp S β)} {k : S → R α} {kr : β → R α} (o : Run x m (QLr E Hh V HR)) (n : ∀ s, Run (F (.nx (E s)) (Hh s)) (k s) Q) (nr : ∀ a h, HR a h → Run (F (.rt (V a)) h) (kr a) Q) :
    Run (x.bind F) (m.bind fun l => l.on k kr) Q := by
  refine run_bind o fun l f h q => ?_
  cases l with
  | nx s => obtain ⟨rfl, rfl⟩ := q; exact n s
  | bk s => exact q.elim
  | rt a => obtain ⟨rfl, q⟩ := q; exact nr a h q
end
/-! ### defs -/
/-- the end of a def -/
def FD : Fl → SM Val := fun f h1 => match f with
  | .nx _ => .ok .non h1
  | .rt v => .ok v h1
  | _ => .stuck
section
variable {α : Type} {Q : α → Val → PH → Prop} {m : R α} {h : PH}
theorem d_run {n : Nat} {ms : Stm} {vs : List Val} {env : Ev} (he : vs.map some ++ List.replicate (n - vs.length) none = env) (o : Run ((ms env h).bind FD) m Q) : Run (defRun n ms vs h) m Q := by subst he; exact o
theorem ap_of {d : Dm} {vs : List Val} {enc : α → Val} (o : Run (d vs []) m fun z v _ => v = enc z) (hf : frees vs = true) (hz : ∀ z, free (enc z) = true) : Run (apart d vs h) m (Xt enc fun _ => h) := by
  unfold apart
  rw [if_pos hf]
  cases m with
  | ok a =>
    obtain ⟨b, h2, e, rfl⟩ := o
    rw [e]
    refine ⟨_, _, ?_, rfl, rfl⟩
    simp only [dvN_free 3 h2 (hz a)]; rfl
  | ex e =>
    obtain ⟨e1, h2, e2⟩ := o
    rw [e2]; simp only [e1, if_true]; exact ⟨e1, _, rfl⟩
  | st => trivial
theorem apN_of {d : Dm} {vs : List Val} {m : R α} {enc : α → List Val} (o : Run (d vs []) m fun z v h' => ∃ l, v = .ref l ∧ h'[l]? = some (.lst (enc z))) (hf : frees vs = true) (hz : ∀ z, frees (enc z) = true) : Run (apartN d vs h) m (Xt enc fun _ => h) := by
  unfold apartN
  rw [if_pos hf]
  cases m with
  | ok a =>
    obtain ⟨b, h2, e, l, rfl, el⟩ := o
    rw [e]
    simp only [el, hz a, if_true]
    exact ⟨_, _, rfl, rfl, rfl⟩
  | ex e =>
    obtain ⟨e1, h2, e2⟩ := o
    rw [e2]; simp only [e1, if_true]; exact ⟨e1, _, rfl⟩
  | st => trivial
/-- one located argument -/
theorem ap1_of {β S : Type} {d : Dm} {vs ws : List Val} {l : Nat} {m : R (β × S)} {enc : β → Val} {eH : S → Val} {s : S} (hr : ref1 vs = some (l, ws)) (hl : h[l]? = some (eH s)) (hs : ∀ s, free (eH s) = true ∧ nonB (eH s) = false) (hz : ∀ z, free (enc z) = true)
    (o : Run (d ws [eH s]) m fun p v h' => v = enc p.1 ∧ ∃ t, h' = eH p.2 :: t) : Run (apart1 d vs h) m.nx (Xt (fun p => enc p.1) fun p => h.set l (eH p.2)) := by
  unfold apart1
  simp only [hr, hl, (hs s).1, (hs s).2, Bool.not_false, Bool.and_self, if_true]
  cases m with
  | ok a =>
    obtain ⟨b, h2, e, rfl, t, rfl⟩ := o
    rw [e]
    simp only [hz, (hs a.2).1, (hs a.2).2, Bool.not_false, Bool.and_self, if_true]
    exact ⟨_, _, rfl, rfl, rfl⟩
  | ex e => trivial
  | st => trivial
end
end SW

namespace SW
open PySem

/-! ### how plain values stand for values -/
abbrev encT {α : Type} (c : α → Val) (xs : List α) : Val := .tup (xs.map c)
abbrev encL {α : Type} (c : α → Val) (xs : List α) : Val := .lst (xs.map c)
abbrev encP {α β : Type} (c : α → Val) (d : β → Val) (p : α × β) : Val := .tup [c p.1, d p.2]
/-- a pair that a source gives -/
abbrev encE {α β : Type} (c : α → Val) (d : β → Val) (p : α × β) : Val := .ins 1 [c p.1, d p.2]
abbrev encP3 {α β γ : Type} (c : α → Val) (d : β → Val) (e : γ → Val) (p : α × β × γ) : Val := .tup [c p.1, d p.2.1, e p.2.2]
abbrev encP4 {α β γ δ : Type} (c : α → Val) (d : β → Val) (e : γ → Val) (f : δ → Val) (p : α × β × γ × δ) : Val := .tup [c p.1, d p.2.1, e p.2.2.1, f p.2.2.2]
def encO {α : Type} (c : α → Val) (o : Option α) : Val := match o with | none => .non | some x => c x
abbrev encN (_ : Unit) : Val := .non
abbrev encH {α β γ δ ε : Type} (c : α → Val) (d : β → Val) (e : γ → Val) (f : δ → Val) (g : ε → Val) (p : α × β × γ × δ × ε) : Val := .lst [c p.1, d p.2.1, e p.2.2.1, f p.2.2.2.1, g p.2.2.2.2]
abbrev encI : Int → Val := Val.int
abbrev encB : Bool → Val := Val.bl
abbrev encS : Str → Val := Val.str
theorem enc_str : EncOK encS 0 := ⟨fun _ _ => rfl, fun _ => rfl, fun a b => by simp only [encS, veq]; cases q : (a == b) with
  | true => rw [decide_eq_true (eq_of_beq q)]
  | false => rw [decide_eq_false fun z => by subst z; simp at q], fun _ => rfl⟩
theorem enc_n : EncOK encN 0 := ⟨fun _ _ => rfl, fun _ => rfl, fun a b => rfl, fun _ => rfl⟩
section
variable {α β γ δ : Type} [DecidableEq α] [DecidableEq β] [DecidableEq γ] [DecidableEq δ] {c : α → Val} {d : β → Val} {e : γ → Val} {f : δ → Val} {n m k l : Nat}
theorem enc_p (o1 : EncOK c n) (o2 : EncOK d m) : EncOK (encP c d) (max n m + 1) := ⟨fun _ _ => rfl, fun a => by
    simp only [encP, dat, dats, Bool.and_true, Bool.and_eq_true]
    exact ⟨dat_up (o1.dt _) (by omega), dat_up (o2.dt _) (by omega)⟩, fun a b => by
    obtain ⟨a1, a2⟩ := a
    obtain ⟨b1, b2⟩ := b
    simp only [encP, veq, veqs, Bool.and_true, o1.eq, o2.eq, Prod.mk.injEq, Bool.decide_and], fun a => by
    simp only [encP, free, frees, o1.fr, o2.fr, Bool.and_self]⟩
theorem enc_p3 (o1 : EncOK c n) (o2 : EncOK d m) (o3 : EncOK e k) : EncOK (encP3 c d e) (max n (max m k) + 1) := ⟨fun _ _ => rfl, fun a => by
    simp only [encP3, dat, dats, Bool.and_true, Bool.and_eq_true]
    exact ⟨dat_up (o1.dt _) (by omega), dat_up (o2.dt _) (by omega), dat_up (o3.dt _) (by omega)⟩, fun a b => by
    obtain ⟨a1, a2, a3⟩ := a
    obtain ⟨b1, b2, b3⟩ := b
    simp only [encP3, veq, veqs, Bool.and_true, o1.eq, o2.eq, o3.eq, Prod.mk.injEq, Bool.decide_and], fun a => by
    simp only [encP3, free, frees, o1.fr, o2.fr, o3.fr, Bool.and_self]⟩
theorem enc_p4 (o1 : EncOK c n) (o2 : EncOK d m) (o3 : EncOK e k) (o4 : EncOK f l) : EncOK (encP4 c d e f) (max n (max m (max k l)) + 1) := ⟨fun _ _ => rfl, fun a => by
    simp only [encP4, dat, dats, Bool.and_true, Bool.and_eq_true]
    exact ⟨dat_up (o1.dt _) (by omega), dat_up (o2.dt _) (by omega), dat_up (o3.dt _) (by omega), dat_up (o4.dt _) (by omega)⟩, fun a b => by
    obtain ⟨a1, a2, a3, a4⟩ := a
    obtain ⟨b1, b2, b3, b4⟩ := b
    simp only [encP4, veq, veqs, Bool.and_true, o1.eq, o2.eq, o3.eq, o4.eq, Prod.mk.injEq, Bool.decide_and], fun a => by
    simp only [encP4, free, frees, o1.fr, o2.fr, o3.fr, o4.fr, Bool.and_self]⟩
/-- never None, never located -/
structure NnOK {α : Type} (c : α → Val) : Prop where
  nn : ∀ a, nonB (c a) = false
  al : ∀ h a, alive h (c a) = true
  n1 : ∀ a (y : Val), nonB y = true → veq (c a) y = false ∧ veq y (c a) = false
theorem enc_o (o1 : EncOK c n) (o2 : NnOK c) : EncOK (encO c) n := ⟨fun h a => by cases a <;> simp only [encO, view_non, o1.vw], fun a => by cases a <;> simp only [encO, dat, o1.dt], fun a b => by
    cases a with
    | none => cases b with
      | none => rfl
      | some y => simp only [encO, (o2.n1 y .non rfl).2, reduceCtorEq, decide_false]
    | some x => cases b with
      | none => simp only [encO, (o2.n1 x .non rfl).1, reduceCtorEq, decide_false]
      | some y => simp only [encO, o1.eq, Option.some.injEq], fun a => by cases a <;> simp only [encO, free, o1.fr]⟩
theorem nn_i : NnOK encI := ⟨fun _ => rfl, fun _ _ => rfl, fun a y h => by cases y <;> first | (cases h; done) | exact ⟨rfl, rfl⟩⟩
theorem nn_b : NnOK encB := ⟨fun _ => rfl, fun _ _ => rfl, fun a y h => by cases y <;> first | (cases h; done) | exact ⟨rfl, rfl⟩⟩
theorem nn_s : NnOK encS := ⟨fun _ => rfl, fun _ _ => rfl, fun a y h => by cases y <;> first | (cases h; done) | exact ⟨rfl, rfl⟩⟩
theorem nn_t : NnOK (encT c) := ⟨fun _ => rfl, fun _ _ => rfl, fun a y h => by cases y <;> first | (cases h; done) | exact ⟨rfl, rfl⟩⟩
theorem nn_l : NnOK (encL c) := ⟨fun _ => rfl, fun _ _ => rfl, fun a y h => by cases y <;> first | (cases h; done) | exact ⟨rfl, rfl⟩⟩
theorem nn_p : NnOK (encP c d) := ⟨fun _ => rfl, fun _ _ => rfl, fun a y h => by cases y <;> first | (cases h; done) | exact ⟨rfl, rfl⟩⟩
theorem nn_p3 : NnOK (encP3 c d e) := ⟨fun _ => rfl, fun _ _ => rfl, fun a y h => by cases y <;> first | (cases h; done) | exact ⟨rfl, rfl⟩⟩
theorem nn_p4 : NnOK (encP4 c d e f) := ⟨fun _ => rfl, fun _ _ => rfl, fun a y h => by cases y <;> first | (cases h; done) | exact ⟨rfl, rfl⟩⟩
/-- values that can be ordered -/
structure OrdOK {α : Type} (c : α → Val) : Prop where
  al : ∀ a b, valike (c a) (c b) = true
  nn : ∀ a, nonB (c a) = false
  ty : (∀ a, (c a).isTup = true) ∨ (∀ a, isPlain (c a) = true)
theorem ord_i : OrdOK encI := ⟨fun _ _ => rfl, fun _ => rfl, .inr fun _ => rfl⟩
theorem ord_b : OrdOK encB := ⟨fun _ _ => rfl, fun _ => rfl, .inr fun _ => rfl⟩
theorem ord_s : OrdOK encS := ⟨fun _ _ => rfl, fun _ => rfl, .inr fun _ => rfl⟩
theorem valikes_map (o : OrdOK c) : ∀ xs ys : List α, valikes (xs.map c) (ys.map c) = true
  | [], _ => rfl
  | _ :: _, [] => rfl
  | x :: xs, y :: ys => by simp only [List.map_cons, valikes, o.al, valikes_map o xs ys, Bool.and_self]
theorem ord_t (o : OrdOK c) : OrdOK (encT c) := ⟨fun a b => by simp only [encT, valike]; exact valikes_map o a b, fun _ => rfl, .inl fun _ => rfl⟩
theorem ord_l (o : OrdOK c) : OrdOK (encL c) := ⟨fun a b => by simp only [encL, valike]; exact valikes_map o a b, fun _ => rfl, .inr fun _ => rfl⟩
theorem ord_p (o1 : OrdOK c) (o2 : OrdOK d) : OrdOK (encP c d) := ⟨fun a b => by simp only [encP, valike, valikes, o1.al, o2.al, Bool.and_self], fun _ => rfl, .inl fun _ => rfl⟩
theorem ord_p3 (o1 : OrdOK c) (o2 : OrdOK d) (o3 : OrdOK e) : OrdOK (encP3 c d e) := ⟨fun a b => by simp only [encP3, valike, valikes, o1.al, o2.al, o3.al, Bool.and_self], fun _ => rfl, .inl fun _ => rfl⟩
theorem ord_p4 (o1 : OrdOK c) (o2 : OrdOK d) (o3 : OrdOK e) (o4 : OrdOK f) : OrdOK (encP4 c d e f) := ⟨fun a b => by simp only [encP4, valike, valikes, o1.al, o2.al, o3.al, o4.al, Bool.and_self], fun _ => rfl, .inl fun _ => rfl⟩
end
/-- Python's < -/
def lte {α : Type} (c : α → Val) (a b : α) : Bool := vlt (c a) (c b)
theorem lte_i (a b : Int) : lte encI a b = decide (a < b) := by simp [lte, vlt]
def sortE {α : Type} (c : α → Val) (xs : List α) : List α := xs.mergeSort fun a b => !lte c b a
def enumI {α : Type} (xs : List α) : List (Int × α) := (rng xs.length).zip xs
def idxR {α : Type} (xs : List α) (i : Int) : R α := match L2.atI xs i with | some x => .ok x | none => .st
def catR {α : Type} (xs ys : List α) : R (List α) := if xs.length + ys.length ≤ 1000000 then .ok (xs ++ ys) else .st
def snocR {α : Type} (xs : List α) (x : α) : R (List α) := if xs.length < 1000000 then .ok (xs ++ [x]) else .st
def popR {α : Type} (xs : List α) : R (List α × α) := match xs.getLast? with | some x => .ok (xs.dropLast, x) | none => .st
def popAtR {α : Type} (xs : List α) (i : Int) : R (List α × α) := if decide (0 ≤ i) && decide (i < 1000000) then (match xs[i.toNat]? with | some x => .ok (xs.eraseIdx i.toNat, x) | none => .st) else .st
def setR {α : Type} (xs : List α) (i : Int) (x : α) : R (List α) := match L2.ixN xs.length i with | some j => .ok (xs.set j x) | none => .st
def mulR (i j : Int) : R Int := if fac i || fac j then .ok (i * j) else .st
def divR (i j : Int) : R Int := if decide (0 < j) && decide (j < 1073741824) then .ok (i / j) else .st
def modR (i j : Int) : R Int := if decide (0 < j) then .ok (i % j) else .st
def powR (i j : Int) : R Int := if decide (0 ≤ j) && decide (j ≤ 1000) && fac i then .ok (i ^ j.toNat) else .st
def repLR {α : Type} (xs : List α) (k : Int) : R (List α) := if decide (-1000000 ≤ k) && decide (k ≤ 1000000) && decide (xs.length * k.toNat ≤ 1000000) then .ok (List.replicate k.toNat xs).flatten else .st
def minR {α : Type} (c : α → Val) (xs : List α) : R α := match xs with | [] => .st | x :: xs => .ok (xs.foldl (fun a y => if lte c y a = true then y else a) x)
def maxR {α : Type} (c : α → Val) (xs : List α) : R α := match xs with | [] => .st | x :: xs => .ok (xs.foldl (fun a y => if lte c a y = true then y else a) x)
def max2 (i j : Int) : Int := if j > i then j else i
def min2 (i j : Int) : Int := if j < i then j else i
def absI (i : Int) : Int := if i < 0 then -i else i
def optR {α : Type} (o : Option α) : R α := match o with | some x => .ok x | none => .st
section
variable {α β : Type} [DecidableEq α] [DecidableEq β] {c : α → Val} {d : β → Val} {n : Nat} {h : PH} {a b : α} {xs ys : List α} {i j : Int} {vs : List Val} {r : Ev} {e : Ex} {l : Nat}
/-! pure operations -/
theorem o_eq [i : Decidable (a = b)] (ok : EncOK c n) (hn : n ≤ 59) : gEq h (c a) (c b) = some (.bl (decide (a = b))) := (eq_enc ok hn).trans (congrArg (fun x => some (Val.bl x)) (decide_eq_decide.mpr Iff.rfl))
theorem o_ne [i : Decidable (a = b)] (ok : EncOK c n) (hn : n ≤ 59) : gNe h (c a) (c b) = some (.bl (!decide (a = b))) := (ne_enc ok hn).trans (congrArg (fun x => some (Val.bl (!x))) (decide_eq_decide.mpr Iff.rfl))
theorem ord_enc (o : OrdOK c) (ok : EncOK c n) (hn : n ≤ 59) (k : Val → Val → Bool) : ord h (c a) (c b) k = some (.bl (k (c a) (c b))) := by
  simp only [ord, ok.vw, dat_up (ok.dt a) (show n ≤ 60 by omega), dat_up (ok.dt b) (show n ≤ 60 by omega), o.al, o.nn, Bool.not_false, Bool.and_self, if_true]
theorem o_lt (o : OrdOK c) (ok : EncOK c n) (hn : n ≤ 59) : gLt h (c a) (c b) = some (.bl (lte c a b)) := ord_enc o ok hn _
theorem o_gt (o : OrdOK c) (ok : EncOK c n) (hn : n ≤ 59) : gGt h (c a) (c b) = some (.bl (lte c b a)) := ord_enc o ok hn _
theorem o_le (o : OrdOK c) (ok : EncOK c n) (hn : n ≤ 59) : gLe h (c a) (c b) = some (.bl (!lte c b a)) := ord_enc o ok hn _
theorem o_ge (o : OrdOK c) (ok : EncOK c n) (hn : n ≤ 59) : gGe h (c a) (c b) = some (.bl (!lte c a b)) := ord_enc o ok hn _
theorem o_inT [i : Decidable (a ∈ xs)] (ok : EncOK c n) (hn : n ≤ 59) : gIn h (c a) (.tup (xs.map c)) = some (.bl (decide (a ∈ xs))) := inn_tup ok hn id
theorem o_inL [i : Decidable (a ∈ xs)] (ok : EncOK c n) (hn : n ≤ 59) : gIn h (c a) (.lst (xs.map c)) = some (.bl (decide (a ∈ xs))) := inn_lst ok hn id
theorem o_ninT [i : Decidable (a ∈ xs)] (ok : EncOK c n) (hn : n ≤ 59) : gNotIn h (c a) (.tup (xs.map c)) = some (.bl (!decide (a ∈ xs))) := inn_tup ok hn not
theorem o_ninL [i : Decidable (a ∈ xs)] (ok : EncOK c n) (hn : n ≤ 59) : gNotIn h (c a) (.lst (xs.map c)) = some (.bl (!decide (a ∈ xs))) := inn_lst ok hn not
theorem inn_ref [i : Decidable (a ∈ xs)] (ok : EncOK c n) (hn : n ≤ 59) (k : Bool → Bool) (hl : h[l]? = some (.lst (xs.map c))) : inn h (c a) (.ref l) k = some (.bl (k (decide (a ∈ xs)))) := by
  have e : inn h (c a) (.ref l) k = inn h (c a) (.lst (xs.map c)) k := by simp only [inn, view, hl]
  rw [e]; exact inn_lst ok hn k
theorem o_inR [i : Decidable (a ∈ xs)] (ok : EncOK c n) (hn : n ≤ 59) (hl : h[l]? = some (.lst (xs.map c))) : gIn h (c a) (.ref l) = some (.bl (decide (a ∈ xs))) := inn_ref ok hn id hl
theorem o_ninR [i : Decidable (a ∈ xs)] (ok : EncOK c n) (hn : n ≤ 59) (hl : h[l]? = some (.lst (xs.map c))) : gNotIn h (c a) (.ref l) = some (.bl (!decide (a ∈ xs))) := inn_ref ok hn not hl
theorem o_isO (ok : NnOK c) {o : Option α} : gIs h (encO c o) .non = some (.bl o.isNone) := by
  cases o with
  | none => rfl
  | some x => simp only [encO, gIs, ok.al, ok.nn, if_true, Option.isNone_some]
theorem o_isnO (ok : NnOK c) {o : Option α} : gIsNot h (encO c o) .non = some (.bl o.isSome) := by
  cases o with
  | none => rfl
  | some x => simp only [encO, gIsNot, ok.al, ok.nn, if_true, Option.isSome_some, Bool.not_false]
theorem o_isF (ok : NnOK c) : gIs h (c a) .non = some (.bl false) := by simp only [gIs, ok.al, ok.nn, if_true]
theorem o_isnF (ok : NnOK c) : gIsNot h (c a) .non = some (.bl true) := by simp only [gIsNot, ok.al, ok.nn, if_true, Bool.not_false]
theorem o_lenT : gLen h [.tup (xs.map c)] = some (.int xs.length) := by rw [len_tup, List.length_map]
theorem o_lenL : gLen h [.lst (xs.map c)] = some (.int xs.length) := by rw [len_lst, List.length_map]
theorem o_lenR (hl : h[l]? = some (.lst (xs.map c))) : gLen h [.ref l] = some (.int xs.length) := by
  have e : gLen h [.ref l] = gLen h [.lst (xs.map c)] := by simp only [gLen, view, hl]
  rw [e, o_lenL]
theorem o_tupR (hl : h[l]? = some (.lst vs)) : gTuple h [.ref l] = some (.tup vs) := by simp only [gTuple, view, hl]
theorem o_listR (hl : h[l]? = some (.lst vs)) : gListN h [.ref l] = some vs := by simp only [gListN, view, hl]
theorem o_listT : gListN h [.tup vs] = some vs := rfl
theorem o_listL : gListN h [.lst vs] = some vs := rfl
theorem o_sumL {zs : List Int} : gSum h [.lst (zs.map .int)] = some (.int zs.sum) := sum_l
theorem o_sumT {zs : List Int} : gSum h [.tup (zs.map .int)] = some (.int zs.sum) := by simp only [gSum, view_tup', ints_map, Option.map_some]
theorem o_sumR {zs : List Int} (hl : h[l]? = some (.lst (zs.map .int))) : gSum h [.ref l] = some (.int zs.sum) := by
  have e : gSum h [.ref l] = gSum h [.lst (zs.map .int)] := by simp only [gSum, view, hl]
  rw [e, sum_l]
theorem o_allL {bs : List Bool} : gAll h [.lst (bs.map .bl)] = some (.bl (bs.all id)) := all_bl id bs
theorem o_anyL {bs : List Bool} : gAny h [.lst (bs.map .bl)] = some (.bl (bs.any id)) := any_bl id bs
theorem o_allR {bs : List Bool} (hl : h[l]? = some (.lst (bs.map .bl))) : gAll h [.ref l] = some (.bl (bs.all id)) := by
  have e : gAll h [.ref l] = gAll h [.lst (bs.map .bl)] := by simp only [gAll, view, hl]
  rw [e]; exact o_allL
theorem o_anyR {bs : List Bool} (hl : h[l]? = some (.lst (bs.map .bl))) : gAny h [.ref l] = some (.bl (bs.any id)) := by
  have e : gAny h [.ref l] = gAny h [.lst (bs.map .bl)] := by simp only [gAny, view, hl]
  rw [e]; exact o_anyL
theorem o_max2 : gMax2 h [.int i, .int j] = some (.int (max2 i j)) := rfl
theorem o_min2 : gMin2 h [.int i, .int j] = some (.int (min2 i j)) := rfl
theorem o_abs : gAbs h [.int i] = some (.int (absI i)) := rfl
theorem o_mulK (hi : fac i = true) : gMul h (.int i) (.int j) = some (.int (i * j)) := mul_l hi
theorem o_mulK' (hi : fac j = true) : gMul h (.int i) (.int j) = some (.int (i * j)) := mul_r hi
theorem o_divK (h1 : 0 < j) (h2 : j < 1073741824) : gDiv h (.int i) (.int j) = some (.int (i / j)) := div_ii h1 h2
theorem o_modK (h1 : 0 < j) : gMod h (.int i) (.int j) = some (.int (i % j)) := mod_ii h1
theorem mergeSort_map {le : Val → Val → Bool} (xs : List α) : (xs.map c).mergeSort le = (xs.mergeSort fun a b => le (c a) (c b)).map c := by
  rw [List.map_mergeSort]
  intro a _ b _; rfl
theorem srt_enc (o : OrdOK c) (ok : EncOK c n) (hn : n ≤ 59) : srt (xs.map c) = some ((sortE c xs).map c) := by
  unfold srt
  have e1 : dats (xs.map c) 60 = true := dats_map (fun a => dat_up (ok.dt a) (by omega)) xs
  have e2 : alikes (xs.map c) = true := by
    unfold alikes
    rw [List.all_eq_true]; intro x hx
    rw [List.all_eq_true]; intro y hy
    obtain ⟨a, _, rfl⟩ := List.mem_map.mp hx
    obtain ⟨b, _, rfl⟩ := List.mem_map.mp hy
    exact o.al a b
  have e3 : ((xs.map c).all Val.isTup || (xs.map c).all isPlain) = true := by
    rcases o.ty with z | z
    · rw [show (xs.map c).all Val.isTup = true by rw [List.all_eq_true]; intro x hx; obtain ⟨a, _, rfl⟩ := List.mem_map.mp hx; exact z a]; rfl
    · rw [show (xs.map c).all isPlain = true by rw [List.all_eq_true]; intro x hx; obtain ⟨a, _, rfl⟩ := List.mem_map.mp hx; exact z a, Bool.or_true]
  rw [e1, e2, e3]
  simp only [Bool.and_self, if_true, mergeSort_map]; rfl
theorem o_sortL (o : OrdOK c) (ok : EncOK c n) (hn : n ≤ 59) : gSortedN h [.lst (xs.map c)] = some ((sortE c xs).map c) := srt_enc o ok hn
theorem o_sortT (o : OrdOK c) (ok : EncOK c n) (hn : n ≤ 59) : gSortedN h [.tup (xs.map c)] = some ((sortE c xs).map c) := srt_enc o ok hn
theorem o_sortR (o : OrdOK c) (ok : EncOK c n) (hn : n ≤ 59) (hl : h[l]? = some (.lst (xs.map c))) : gSortedN h [.ref l] = some ((sortE c xs).map c) := by
  have e : gSortedN h [.ref l] = gSortedN h [.lst (xs.map c)] := by simp only [gSortedN, view, hl]
  rw [e]; exact srt_enc o ok hn
theorem ordAll_enc (o : OrdOK c) (ok : EncOK c n) (hn : n ≤ 59) : ordAll (xs.map c) = true := by
  unfold ordAll
  rw [show dats (xs.map c) 60 = true from dats_map (fun a => dat_up (ok.dt a) (by omega)) xs]
  have e2 : ((xs.map c).all fun a => (xs.map c).all fun b => valike a b) = true := by
    rw [List.all_eq_true]; intro x hx
    rw [List.all_eq_true]; intro y hy
    obtain ⟨a, _, rfl⟩ := List.mem_map.mp hx
    obtain ⟨b, _, rfl⟩ := List.mem_map.mp hy
    exact o.al a b
  have e3 : ((xs.map c).all fun a => !nonB a) = true := by
    rw [List.all_eq_true]; intro x hx
    obtain ⟨a, _, rfl⟩ := List.mem_map.mp hx
    rw [o.nn]; rfl
  rw [e2, e3]; rfl
theorem vmin_map : ∀ (xs : List α) (x : α), vmin (c x) (xs.map c) = c (xs.foldl (fun a y => if lte c y a = true then y else a) x)
  | [], x => rfl
  | y :: xs, x => by
    have ih := fun z => vmin_map xs z
    simp only [vmin, List.map_cons, List.foldl_cons, lte] at ih ⊢
    rw [← ih]; congr 1; split <;> simp [*]
theorem vmax_map : ∀ (xs : List α) (x : α), vmax (c x) (xs.map c) = c (xs.foldl (fun a y => if lte c a y = true then y else a) x)
  | [], x => rfl
  | y :: xs, x => by
    have ih := fun z => vmax_map xs z
    simp only [vmax, List.map_cons, List.foldl_cons, lte] at ih ⊢
    rw [← ih]; congr 1; split <;> simp [*]
/-! told by results -/
theorem v_minL (o : OrdOK c) (ok : EncOK c n) (hn : n ≤ 59) : OpV (gMin1 h [.lst (xs.map c)]) (minR c xs) c := by
  cases xs with
  | nil => trivial
  | cons x xs =>
    have q : ordAll (c x :: xs.map c) = true := ordAll_enc (xs := x :: xs) o ok hn
    show (if ordAll (c x :: xs.map c) = true then some (vmin (c x) (xs.map c)) else none) = _
    rw [if_pos q, vmin_map]
theorem v_minT (o : OrdOK c) (ok : EncOK c n) (hn : n ≤ 59) : OpV (gMin1 h [.tup (xs.map c)]) (minR c xs) c := by
  have e : gMin1 h [.tup (xs.map c)] = gMin1 h [.lst (xs.map c)] := by cases xs <;> rfl
  rw [e]; exact v_minL o ok hn
theorem v_maxL (o : OrdOK c) (ok : EncOK c n) (hn : n ≤ 59) : OpV (gMax1 h [.lst (xs.map c)]) (maxR c xs) c := by
  cases xs with
  | nil => trivial
  | cons x xs =>
    have q : ordAll (c x :: xs.map c) = true := ordAll_enc (xs := x :: xs) o ok hn
    show (if ordAll (c x :: xs.map c) = true then some (vmax (c x) (xs.map c)) else none) = _
    rw [if_pos q, vmax_map]
theorem v_maxT (o : OrdOK c) (ok : EncOK c n) (hn : n ≤ 59) : OpV (gMax1 h [.tup (xs.map c)]) (maxR c xs) c := by
  have e : gMax1 h [.tup (xs.map c)] = gMax1 h [.lst (xs.map c)] := by cases xs <;> rfl
  rw [e]; exact v_maxL o ok hn
theorem v_maxR (o : OrdOK c) (ok : EncOK c n) (hn : n ≤ 59) (hl : h[l]? = some (.lst (xs.map c))) : OpV (gMax1 h [.ref l]) (maxR c xs) c := by
  have e : gMax1 h [.ref l] = gMax1 h [.lst (xs.map c)] := by simp only [gMax1, view, hl]
  rw [e]; exact v_maxL o ok hn
theorem v_minR (o : OrdOK c) (ok : EncOK c n) (hn : n ≤ 59) (hl : h[l]? = some (.lst (xs.map c))) : OpV (gMin1 h [.ref l]) (minR c xs) c := by
  have e : gMin1 h [.ref l] = gMin1 h [.lst (xs.map c)] := by simp only [gMin1, view, hl]
  rw [e]; exact v_minL o ok hn
theorem v_idx (vs : List α) : OpV (L2.atI (vs.map c) i) (idxR vs i) c := by
  rw [atI_map]; unfold idxR
  cases L2.atI vs i with
  | none => trivial
  | some x => rfl
theorem v_idxT : OpV (gIx h (.tup (xs.map c)) (.int i)) (idxR xs i) c := v_idx xs
theorem v_idxL : OpV (gIx h (.lst (xs.map c)) (.int i)) (idxR xs i) c := v_idx xs
theorem v_idxR (hl : h[l]? = some (.lst (xs.map c))) : OpV (gIx h (.ref l) (.int i)) (idxR xs i) c := by
  have e : gIx h (.ref l) (.int i) = gIx h (.lst (xs.map c)) (.int i) := by simp only [gIx, view, hl]
  rw [e]; exact v_idxL
theorem v_catT : OpV (gAdd h (.tup (xs.map c)) (.tup (ys.map c))) (catR xs ys) (encT c) := by
  unfold catR
  by_cases q : xs.length + ys.length ≤ 1000000
  · rw [if_pos q]; show gAdd _ _ _ = some (.tup ((xs ++ ys).map c)); rw [add_tt (by simpa using q), List.map_append]
  · rw [if_neg q]; trivial
theorem v_catL : OpV (gAdd h (.lst (xs.map c)) (.lst (ys.map c))) (catR xs ys) (encL c) := by
  unfold catR
  by_cases q : xs.length + ys.length ≤ 1000000
  · rw [if_pos q]; show gAdd _ _ _ = some (.lst ((xs ++ ys).map c)); rw [add_ll (by simpa using q), List.map_append]
  · rw [if_neg q]; trivial
theorem v_mul : OpV (gMul h (.int i) (.int j)) (mulR i j) encI := by
  unfold mulR
  by_cases q : (fac i || fac j) = true
  · rw [if_pos q]; show (if (fac i || fac j) = true then some (Val.int (i * j)) else none) = _; rw [if_pos q]
  · rw [if_neg q]; trivial
theorem v_div : OpV (gDiv h (.int i) (.int j)) (divR i j) encI := by
  unfold divR
  by_cases q : (decide (0 < j) && decide (j < 1073741824)) = true
  · rw [if_pos q]; show (if (decide (0 < j) && decide (j < 1073741824)) = true then some (Val.int (i / j)) else none) = _; rw [if_pos q]
  · rw [if_neg q]; trivial
theorem v_mod : OpV (gMod h (.int i) (.int j)) (modR i j) encI := by
  unfold modR
  by_cases q : decide (0 < j) = true
  · rw [if_pos q]; show (if decide (0 < j) = true then some (Val.int (i % j)) else none) = _; rw [if_pos q]
  · rw [if_neg q]; trivial
theorem v_pow : OpV (gPow h (.int i) (.int j)) (powR i j) encI := by
  unfold powR
  by_cases q : (decide (0 ≤ j) && decide (j ≤ 1000) && fac i) = true
  · rw [if_pos q]; show (if (decide (0 ≤ j) && decide (j ≤ 1000) && fac i) = true then some (Val.int (i ^ j.toNat)) else none) = _; rw [if_pos q]
  · rw [if_neg q]; trivial
theorem v_repL : OpV (gMul h (.lst (xs.map c)) (.int i)) (repLR xs i) (encL c) := by
  unfold repLR
  have e : gMul h (.lst (xs.map c)) (.int i) = if (decide (-1000000 ≤ i) && decide (i ≤ 1000000) && decide (xs.length * i.toNat ≤ 1000000)) = true then some (.lst (List.replicate i.toNat (xs.map c)).flatten) else none := by
    simp only [gMul, view_lst', List.length_map]
  rw [e]
  by_cases q : (decide (-1000000 ≤ i) && decide (i ≤ 1000000) && decide (xs.length * i.toNat ≤ 1000000)) = true
  · rw [if_pos q, if_pos q]; show some _ = some (Val.lst _)
    rw [List.map_flatten, List.map_replicate]
  · rw [if_neg q, if_neg q]; trivial
theorem v_opt {o : Option α} {f : Val → SM Val} : OpV (if o.isSome = true then some (encO c o) else none) (optR o) c := by
  cases o with
  | none => trivial
  | some x => rfl
/-! parts -/
theorem q_cutTt {lo hi : Option Ex} {u t : Option Int} (ha : e r h = .ok (.tup (xs.map c)) h) (hl : ePart lo r h = .ok u h) (hh : ePart hi r h = .ok t h) : eCut e lo hi r h = .ok (.tup ((cutL xs u t).map c)) h := by
  rw [q_cutT ha hl hh, cutL_map]
theorem q_cutLt {lo hi : Option Ex} {u t : Option Int} (ha : e r h = .ok (.lst (xs.map c)) h) (hl : ePart lo r h = .ok u h) (hh : ePart hi r h = .ok t h) : eCut e lo hi r h = .ok (.lst ((cutL xs u t).map c)) h := by
  rw [q_cutL ha hl hh, cutL_map]
theorem q_cutSt {lo hi : Option Ex} {u t : Option Int} (ha : e r h = .ok (.ins 0 (xs.map c)) h) (hl : ePart lo r h = .ok u h) (hh : ePart hi r h = .ok t h) : eCut e lo hi r h = .ok (.lst ((cutL xs u t).map c)) h := by
  rw [q_cutS ha hl hh, cutL_map]
theorem q_slcLt {lo hi : Option Ex} {u t : Option Int} (ha : e r h = .ok (.lst (xs.map c)) h) (hl : ePart lo r h = .ok u h) (hh : ePart hi r h = .ok t h) : eSlc gCutN e lo hi r h = .ok ((cutL xs u t).map c) h := by
  rw [q_slcN ha hl hh, cutL_map]
theorem q_cutRt {lo hi : Option Ex} {u t : Option Int} (ha : e r h = .ok (.ref l) h) (hr : h[l]? = some (.lst (xs.map c))) (hl : ePart lo r h = .ok u h) (hh : ePart hi r h = .ok t h) : eCut e lo hi r h = .ok (.lst ((cutL xs u t).map c)) h := by
  rw [x_cut, ha]; simp only [isTupR_ok, isTup_ref, Bool.false_eq_true, if_false]
  refine q_frz ?_
  simp only [x_slc, ha, x_bok, hl, hh, gCutN, view, hr, x_lift, cutL_map]
theorem q_revTt (ha : e r h = .ok (.tup (xs.map c)) h) : eRevA e r h = .ok (.tup (xs.reverse.map c)) h := by rw [q_revT ha, List.map_reverse]
theorem q_revLt (ha : e r h = .ok (.lst (xs.map c)) h) : eRevA e r h = .ok (.lst (xs.reverse.map c)) h := by rw [q_revL ha, List.map_reverse]
theorem s_enTt (ha : e r h = .ok (.tup (xs.map c)) h) : SrcIs (sSeq1 srcEnumA e) r h Any ((enumI xs).map (encE encI c)) := by
  have := s_enT ha
  rwa [show ((pairs (xs.map c)).map fun p => Val.ins 1 [.int p.1, p.2]) = (enumI xs).map (encE encI c) by
    simp only [pairs, enumI, List.length_map]
    apply List.ext_getElem <;> simp] at this
theorem s_enLt (ha : e r h = .ok (.lst (xs.map c)) h) : SrcIs (sSeq1 srcEnumA e) r h Any ((enumI xs).map (encE encI c)) := by
  have := s_enL ha
  rwa [show ((pairs (xs.map c)).map fun p => Val.ins 1 [.int p.1, p.2]) = (enumI xs).map (encE encI c) by
    simp only [pairs, enumI, List.length_map]
    apply List.ext_getElem <;> simp] at this
theorem s_enRt (ha : e r h = .ok (.ref l) h) (hl : h[l]? = some (.lst (xs.map c))) : SrcIs (sSeq1 srcEnumA e) r h (At l (xs.map c)) ((enumI xs).map (encE encI c)) := by
  have := s_enR ha hl
  rwa [show ((pairs (xs.map c)).map fun p => Val.ins 1 [.int p.1, p.2]) = (enumI xs).map (encE encI c) by
    simp only [pairs, enumI, List.length_map]
    apply List.ext_getElem <;> simp] at this
theorem s_revTt (ha : e r h = .ok (.tup (xs.map c)) h) : SrcIs (sSeq1 srcRev e) r h Any (xs.reverse.map c) := by rw [List.map_reverse]; exact s_revT ha
theorem s_revLt (ha : e r h = .ok (.lst (xs.map c)) h) : SrcIs (sSeq1 srcRev e) r h Any (xs.reverse.map c) := by rw [List.map_reverse]; exact s_revL ha
theorem zip_enc {ys : List β} : (((xs.map c).zip (ys.map d)).map fun p => Val.ins 1 [p.1, p.2]) = (xs.zip ys).map (encE c d) := by
  apply List.ext_getElem <;> simp
theorem s_zipTt {e2 : Ex} {ys : List β} (ha : e r h = .ok (.tup (xs.map c)) h) (hb : e2 r h = .ok (.tup (ys.map d)) h) : SrcIs (sZip [e, e2]) r h Any ((xs.zip ys).map (encE c d)) := zip_enc (xs := xs) (ys := ys) ▸ s_zipT ha hb
theorem s_zipLt {e2 : Ex} {ys : List β} (ha : e r h = .ok (.lst (xs.map c)) h) (hb : e2 r h = .ok (.lst (ys.map d)) h) : SrcIs (sZip [e, e2]) r h Any ((xs.zip ys).map (encE c d)) := zip_enc (xs := xs) (ys := ys) ▸ s_zipL ha hb
/-- tuple(range), list(range) -/
theorem n_rg1 {j : Int} {γ' δ' : Type} {f : List Val → SM γ'} {Q : δ' → γ' → PH → Prop} {k : List Int → R δ'} (ha : e r h = .ok (.int j) h) (n : ∀ zs : List Int, Run (f (zs.map .int) h) (k zs) Q) : Run ((eRg1 e r h).bind f) ((rngR 0 j).bind k) Q := by
  unfold rngR
  split
  · rename_i q
    simp only [Bool.and_eq_true, decide_eq_true_eq] at q
    have e2 : eRg1 e r h = .ok ((rng2 0 j).map .int) h := by
      unfold eRg1
      rw [ha, x_bok]
      have : rgVal 0 j = some ((rng2 0 j).map .int) := by
        unfold rgVal
        rw [if_pos (by simp only [sml, Bool.and_eq_true, decide_eq_true_eq]; omega)]
        simp only [rng2, List.map_map]; rfl
      simp only [this, x_lift]
    rw [e2, x_bok, R.bind_ok]
    exact n _
  · trivial
end
/-! ### methods of lists -/
def metK {γ : Type} (g : PH → List Val → List Val → Option (List Val × Val)) (l : Nat) (vs : List Val) (h : PH) (f : Val → SM γ) : Res γ := match h[l]? with
  | some (.lst xs) => (match g h xs vs with
    | some (ys, z) => f z (h.set l (.lst ys))
    | none => .stuck)
  | _ => .stuck
section
variable {α δ γ : Type} {Q : δ → γ → PH → Prop} {M : R δ} {f : Val → SM γ} {h h' : PH} {r : Ev} {o : Ex} {ms : List Ex} {l : Nat} {g : PH → List Val → List Val → Option (List Val × Val)} {xs ys vs : List Val} {z : Val} {c : α → Val}
theorem c_met (ho : o r h = .ok (.ref l) h) (hl : h[l]? = some (.lst xs)) (n : Run ((eArgs ms r h).bind fun vs h2 => metK g l vs h2 f) M Q) : Run ((eMet g o ms r h).bind f) M Q := by
  refine c_eq ?_ n
  unfold eMet
  simp only [ho, x_bok, hl, bind_assoc]
  congr 1; funext vs h2
  unfold metK
  cases h2[l]? with
  | none => rfl
  | some w =>
    cases w with
    | lst xs2 => simp only; cases g h2 xs2 vs with
      | none => rfl
      | some p => rfl
    | _ => rfl
theorem m_ok (hl : h[l]? = some (.lst xs)) (hg : g h xs vs = some (ys, z)) (hh : h.set l (.lst ys) = h') (n : Run (f z h') M Q) : Run (metK g l vs h f) M Q := by
  subst hh; unfold metK; simp only [hl, hg]; exact n
theorem m_op {β : Type} {m : R β} {Y : β → List Val} {Z : β → Val} {H' : β → PH} {k : β → R δ} (hl : h[l]? = some (.lst xs)) (hg : OpV (g h xs vs) m fun a => (Y a, Z a)) (hh : ∀ a, h.set l (.lst (Y a)) = H' a) (n : ∀ a, Run (f (Z a) (H' a)) (k a) Q) : Run (metK g l vs h f) (m.bind k) Q := by
  cases m with
  | ok a =>
    have hg : g h xs vs = some (Y a, Z a) := hg
    unfold metK; simp only [hl, hg, hh a]; exact n a
  | ex _ => exact hg.elim
  | st => trivial
end
section
variable {α : Type} {c : α → Val} {xs ys : List α} {x : α} {h : PH} {i : Int} {l : Nat}
theorem v_append : OpV (gAppend h (xs.map c) [c x]) (snocR xs x) fun ys => (ys.map c, Val.non) := by
  unfold snocR
  by_cases q : xs.length < 1000000
  · rw [if_pos q]; show (if (xs.map c).length < big then some (xs.map c ++ [c x], Val.non) else none) = some ((xs ++ [x]).map c, Val.non)
    rw [List.length_map, if_pos q, List.map_append]; rfl
  · rw [if_neg q]; trivial
theorem v_extend : OpV (gExtend h (xs.map c) [.lst (ys.map c)]) (catR xs ys) fun ys => (ys.map c, Val.non) := by
  unfold catR
  by_cases q : xs.length + ys.length ≤ 1000000
  · rw [if_pos q]; show (if (xs.map c).length + (ys.map c).length ≤ big then some (xs.map c ++ ys.map c, Val.non) else none) = some ((xs ++ ys).map c, Val.non)
    rw [List.length_map, List.length_map, if_pos q, List.map_append]
  · rw [if_neg q]; trivial
theorem v_pop : OpV (gPop h (xs.map c) []) (popR xs) fun p => (p.1.map c, c p.2) := by
  unfold popR
  show OpV (match (xs.map c).getLast? with | some v => some ((xs.map c).dropLast, v) | none => none) _ _
  rw [List.getLast?_map]
  cases xs.getLast? with
  | none => trivial
  | some v => show some _ = some _; simp only [List.dropLast_eq_take, List.map_take, List.length_map]
theorem v_popAt : OpV (gPopAt h (xs.map c) [.int i]) (popAtR xs i) fun p => (p.1.map c, c p.2) := by
  unfold popAtR
  show OpV (if (decide (0 ≤ i) && decide (i < 1000000)) = true then (match (xs.map c)[i.toNat]? with | some v => some ((xs.map c).eraseIdx i.toNat, v) | none => none) else none) _ _
  by_cases q : (decide (0 ≤ i) && decide (i < 1000000)) = true
  · rw [if_pos q, if_pos q, List.getElem?_map]
    cases xs[i.toNat]? with
    | none => trivial
    | some v =>
      show some _ = some _
      simp only [List.eraseIdx_eq_take_drop_succ, List.map_append, List.map_take, List.map_drop]
  · rw [if_neg q, if_neg q]; trivial
end
/-! ### o[i] = v -/
def putK {γ : Type} (o : Option PH) (f : PH → Res γ) : Res γ := match o with | some h3 => f h3 | none => .stuck
section
variable {δ γ : Type} {Q : δ → γ → PH → Prop} {M : R δ} {h h' : PH} {r : Ev} {o i : Ex} {x y v : Val} {f : Ev → SM γ} {l : Nat}
theorem g_store (n : Run ((o r h).bind fun x h1 => (i r h1).bind fun y h2 => putK (gPut h2 x y v) fun h3 => f r h3) M Q) : Run ((gStore o i v r h).bind f) M Q := by
  refine c_eq ?_ n
  unfold gStore; simp only [bind_assoc]
  congr 1; funext x h1; congr 1; funext y h2
  cases gPut h2 x y v <;> rfl
theorem p_put {f : PH → Res γ} (e : gPut h x y v = some h') (n : Run (f h') M Q) : Run (putK (gPut h x y v) f) M Q := by rw [e]; exact n
theorem p_putR {f : PH → Res γ} {α : Type} {c : α → Val} {xs : List α} {a : α} {j : Int} {k : List α → R δ} {H' : List α → PH} (hl : h[l]? = some (.lst (xs.map c))) (hh : ∀ ys : List α, h.set l (.lst (ys.map c)) = H' ys) (n : ∀ ys, Run (f (H' ys)) (k ys) Q) :
    Run (putK (gPut h (.ref l) (.int j) (c a)) f) ((setR xs j a).bind k) Q := by
  unfold setR
  have e : gPut h (.ref l) (.int j) (c a) = (L2.ixN xs.length j).map fun i => h.set l (.lst ((xs.map c).set i (c a))) := by
    simp only [gPut, hl, List.length_map]
  rw [e]
  cases L2.ixN xs.length j with
  | none => trivial
  | some i =>
    simp only [Option.map_some, R.bind_ok, putK]
    have := hh (xs.set i a)
    rw [List.map_set] at this
    rw [this]; exact n _
end
end SW

namespace SW
open PySem
abbrev encQ2 {α β : Type} (c : α → Val) (d : β → Val) (p : α × β) : Val := .lst [c p.1, d p.2]
abbrev encQ3 {α β γ : Type} (c : α → Val) (d : β → Val) (e : γ → Val) (p : α × β × γ) : Val := .lst [c p.1, d p.2.1, e p.2.2]
abbrev encQ4 {α β γ δ : Type} (c : α → Val) (d : β → Val) (e : γ → Val) (f : δ → Val) (p : α × β × γ × δ) : Val := .lst [c p.1, d p.2.1, e p.2.2.1, f p.2.2.2]
section
variable {α β γ δ : Type} [DecidableEq α] [DecidableEq β] [DecidableEq γ] [DecidableEq δ] {c : α → Val} {d : β → Val} {e : γ → Val} {f : δ → Val} {n m k l : Nat}
theorem enc_q2 (o1 : EncOK c n) (o2 : EncOK d m) : EncOK (encQ2 c d) (max n m + 1) := ⟨fun _ _ => rfl, fun a => (enc_p o1 o2).dt a, fun a b => (enc_p o1 o2).eq a b, fun a => (enc_p o1 o2).fr a⟩
theorem enc_q3 (o1 : EncOK c n) (o2 : EncOK d m) (o3 : EncOK e k) : EncOK (encQ3 c d e) (max n (max m k) + 1) := ⟨fun _ _ => rfl, fun a => (enc_p3 o1 o2 o3).dt a, fun a b => (enc_p3 o1 o2 o3).eq a b, fun a => (enc_p3 o1 o2 o3).fr a⟩
theorem enc_q4 (o1 : EncOK c n) (o2 : EncOK d m) (o3 : EncOK e k) (o4 : EncOK f l) : EncOK (encQ4 c d e f) (max n (max m (max k l)) + 1) := ⟨fun _ _ => rfl, fun a => (enc_p4 o1 o2 o3 o4).dt a, fun a b => (enc_p4 o1 o2 o3 o4).eq a b, fun a => (enc_p4 o1 o2 o3 o4).fr a⟩
theorem nn_q2 : NnOK (encQ2 c d) := ⟨fun _ => rfl, fun _ _ => rfl, fun a y h => by cases y <;> first | (cases h; done) | exact ⟨rfl, rfl⟩⟩
theorem nn_q3 : NnOK (encQ3 c d e) := ⟨fun _ => rfl, fun _ _ => rfl, fun a y h => by cases y <;> first | (cases h; done) | exact ⟨rfl, rfl⟩⟩
theorem nn_q4 : NnOK (encQ4 c d e f) := ⟨fun _ => rfl, fun _ _ => rfl, fun a y h => by cases y <;> first | (cases h; done) | exact ⟨rfl, rfl⟩⟩
end
abbrev encScr (ns : List Int) : Val := .ins 0 (ns.map encI)
section
variable {α β : Type} {h h' : PH} {r : Ev} {a : Ex}
theorem q_as {γ : Type} {x : Res γ} {v w : γ} (e : x = .ok v h) (ev : v = w) : x = .ok w h := ev ▸ e
theorem q_tt {x : Res Bool} {v w : Bool} (e : x = .ok v h) (ev : v = w) : x = .ok w h := ev ▸ e
theorem t_tupt {c : α → Val} {xs : List α} (ha : a r h = .ok (.tup (xs.map c)) h) : (a r h).bind truthM = .ok (!xs.isEmpty) h := by rw [t_tup ha, List.isEmpty_map]
theorem t_lstt {c : α → Val} {xs : List α} (ha : a r h = .ok (.lst (xs.map c)) h) : (a r h).bind truthM = .ok (!xs.isEmpty) h := by rw [t_lst ha, List.isEmpty_map]
def nonRef : Val → Bool
  | .ref _ => false
  | _ => true
theorem q_moveV {i : Nat} {v : Val} (e : r.getD i none = some v) (hv : nonRef v = true) : eMove i r h = .ok v h := by
  rw [x_move, e]
  cases v <;> first | (cases hv; done) | rfl
theorem c_mv {δ γ : Type} {Q : δ → γ → PH → Prop} {M : R δ} {x : Res Val} {v : Val} {f : Val → SM γ} {h1 : PH} (e : x = .ok v h1) (eh : h1 = h') (n : Run (f v h') M Q) : Run (x.bind f) M Q := by rw [e, eh]; exact n
theorem c_runN {δ γ ε : Type} {Q : δ → γ → PH → Prop} {x : Res ε} {f : ε → SM γ} {m : R β} {k : β → R δ} {V : β → ε} {Hh H' : β → PH} (o : Run x m (Xt V Hh)) (hh : ∀ a, Hh a = H' a) (n : ∀ a, Run (f (V a) (H' a)) (k a) Q) : Run (x.bind f) (m.bind k) Q :=
  c_run o fun a => hh a ▸ n a
theorem c_one {δ : Type} {Q : δ → List Val → PH → Prop} {M : R δ} {e : Ex} (n : Run ((e r h).bind fun v h1 => .ok [v] h1) M Q) : Run (eOne e r h) M Q := n
theorem c_test {δ γ : Type} {Q : δ → γ → PH → Prop} {M : R δ} {e : Ex} {f : Bool → SM γ} (n : Run (((e r h).bind truthM).bind f) M Q) : Run ((eTest (some e) r h).bind f) M Q := n
theorem belE_n {n : Nat} : belE n [] = true := rfl
theorem belE_0 {n : Nat} {r : Ev} (e : belE n r = true) : belE n (none :: r) = true := e
theorem belE_1 {n : Nat} {v : Val} {r : Ev} (e1 : below n v = true) (e : belE n r = true) : belE n (some v :: r) = true := by simp only [belE, e1, e, Bool.and_self]
theorem bels_n {n : Nat} : belows n [] = true := rfl
theorem bels_1 {n : Nat} {v : Val} {r : List Val} (e1 : below n v = true) (e : belows n r = true) : belows n (v :: r) = true := by simp only [belows, e1, e, Bool.and_self]
theorem frees_c {v : Val} {vs : List Val} (e1 : free v = true) (e : frees vs = true) : frees (v :: vs) = true := by simp only [frees, e1, e, Bool.and_self]
theorem free_scr (ns : List Int) : free (encScr ns) = true := by unfold encScr free; exact frees_map (fun _ => rfl) ns
theorem free_H {γ δ ε : Type} [DecidableEq α] [DecidableEq β] [DecidableEq γ] [DecidableEq δ] [DecidableEq ε] {c : α → Val} {d : β → Val} {e : γ → Val} {f : δ → Val} {g : ε → Val} {n1 n2 n3 n4 n5 : Nat} (o1 : EncOK c n1) (o2 : EncOK d n2) (o3 : EncOK e n3) (o4 : EncOK f n4) (o5 : EncOK g n5) (z : α × β × γ × δ × ε) : free (encH c d e f g z) = true := by
  simp only [encH, free, frees, o1.fr, o2.fr, o3.fr, o4.fr, o5.fr, Bool.and_self]
theorem ref1_h {l : Nat} {vs : List Val} (e : frees vs = true) : ref1 (.ref l :: vs) = some (l, .ref 0 :: vs) := by simp only [ref1, e, if_true]
theorem ref1_c {v : Val} {vs ws : List Val} {l : Nat} (e : free v = true) (hv : nonRef v = true) (e2 : ref1 vs = some (l, ws)) : ref1 (v :: vs) = some (l, v :: ws) := by
  cases v <;> first | (cases hv; done) | simp only [ref1, e, e2, if_true, Option.map_some]

theorem v_optix {c : α → Val} {d : β → Val} {o : Option α} {i : Int} {f : α → β} (e : ∀ y, gIx h (c y) (.int i) = some (d (f y))) : OpV (gIx h (encO c o) (.int i)) ((optR o).bind fun y => .ok (f y)) d := by
  cases o with
  | none => trivial
  | some y => exact e y
theorem v_catV [DecidableEq α] {c : α → Val} {xs ys : List α} {x y : Val} (ex : view h x = .lst (xs.map c)) (ey : view h y = .lst (ys.map c)) : OpV (gAdd h x y) (catR xs ys) (encL c) := by
  have e : gAdd h x y = gAdd h (.lst (xs.map c)) (.lst (ys.map c)) := by simp only [gAdd, ex, ey, view_lst']
  rw [e]; exact v_catL
theorem view_ref {l : Nat} {vs : List Val} (e : h[l]? = some (.lst vs)) : view h (.ref l) = .lst vs := by simp only [view, e]
theorem s_zipV [DecidableEq α] [DecidableEq β] {c : α → Val} {d : β → Val} {b : Ex} {xs : List α} {ys : List β} {v w : Val} {P : PH → Prop} (ha : a r h = .ok v h) (hb : b r h = .ok w h) (tv : v.isTup = false) (tw : w.isTup = false) (hP : P h) (ev : ∀ h', P h' → seqAt v h' = some (xs.map c)) (ew : ∀ h', P h' → seqAt w h' = some (ys.map d)) :
    SrcIs (sZip [a, b]) r h P ((xs.zip ys).map (encE c d)) := by
  refine ⟨zipSrc v w (min (xs.map c).length (ys.map d).length), by simp only [x_szip, x_args1, x_args0, ha, hb, x_bok, srcZip, ev h hP, ew h hP, tv, tw, if_true], fun h' hp => ?_⟩
  rw [← zip_enc, ← zip_pairs]
  exact walks_zip (ev h' hp) (ew h' hp)
/-! sources with ends of their own -/
theorem args_c (vs : List Val) : eArgs (vs.map eC) r h = .ok vs h := by
  induction vs with
  | nil => rfl
  | cons v vs ih => rw [List.map_cons, x_args1, x_c, x_bok, ih]; rfl
section
variable {δ γ : Type} {Q : δ → γ → PH → Prop} {M : R δ} {F : Fl → SM γ} {f : List Val → SM γ} {g g1 : TGm} {b : Stm} {es : List Ex} {e : Ex} {k : Val → SM Src} {mt mt1 : Option Ex} {elt : Ex} {own own1 : List Nat} {ms1 : Ev → SM Src}
theorem f_srcR (o : Run ((eArgs es r h).bind fun vs h1 => (sFor (sRng (vs.map eC)) g b r h1).bind F) M Q) : Run ((sFor (sRng es) g b r h).bind F) M Q := by
  refine c_eq ?_ o
  simp only [x_sfor, x_srng, bind_assoc, args_c, x_bok]
theorem f_srcS (o : Run ((e r h).bind fun v h1 => (sFor (sSeq1 k (eC v)) g b r h1).bind F) M Q) : Run ((sFor (sSeq1 k e) g b r h).bind F) M Q := by
  refine c_eq ?_ o
  simp only [x_sfor, x_seq1, bind_assoc, x_c, x_bok]
theorem f_srcZ (o : Run ((eArgs es r h).bind fun vs h1 => (sFor (sZip (vs.map eC)) g b r h1).bind F) M Q) : Run ((sFor (sZip es) g b r h).bind F) M Q := by
  refine c_eq ?_ o
  simp only [x_sfor, x_szip, bind_assoc, args_c, x_bok]
theorem k_srcR (o : Run ((eArgs es r h).bind fun vs h1 => (eComp (sRng (vs.map eC)) g mt elt own r h1).bind f) M Q) : Run ((eComp (sRng es) g mt elt own r h).bind f) M Q := by
  refine c_eq ?_ o
  simp only [x_comp, x_srng, bind_assoc, args_c, x_bok]
theorem k_srcS (o : Run ((e r h).bind fun v h1 => (eComp (sSeq1 k (eC v)) g mt elt own r h1).bind f) M Q) : Run ((eComp (sSeq1 k e) g mt elt own r h).bind f) M Q := by
  refine c_eq ?_ o
  simp only [x_comp, x_seq1, bind_assoc, x_c, x_bok]
theorem k_srcZ (o : Run ((eArgs es r h).bind fun vs h1 => (eComp (sZip (vs.map eC)) g mt elt own r h1).bind f) M Q) : Run ((eComp (sZip es) g mt elt own r h).bind f) M Q := by
  refine c_eq ?_ o
  simp only [x_comp, x_szip, bind_assoc, args_c, x_bok]
theorem k2_srcR (o : Run ((eArgs es r h).bind fun vs h1 => (eComp2 (sRng (vs.map eC)) g mt ms1 g1 mt1 elt own own1 r h1).bind f) M Q) : Run ((eComp2 (sRng es) g mt ms1 g1 mt1 elt own own1 r h).bind f) M Q := by
  refine c_eq ?_ o
  simp only [x_comp2, x_srng, bind_assoc, args_c, x_bok]
theorem k2_srcS (o : Run ((e r h).bind fun v h1 => (eComp2 (sSeq1 k (eC v)) g mt ms1 g1 mt1 elt own own1 r h1).bind f) M Q) : Run ((eComp2 (sSeq1 k e) g mt ms1 g1 mt1 elt own own1 r h).bind f) M Q := by
  refine c_eq ?_ o
  simp only [x_comp2, x_seq1, bind_assoc, x_c, x_bok]
theorem k2_srcZ (o : Run ((eArgs es r h).bind fun vs h1 => (eComp2 (sZip (vs.map eC)) g mt ms1 g1 mt1 elt own own1 r h1).bind f) M Q) : Run ((eComp2 (sZip es) g mt ms1 g1 mt1 elt own own1 r h).bind f) M Q := by
  refine c_eq ?_ o
  simp only [x_comp2, x_szip, bind_assoc, args_c, x_bok]
end
end
end SW

namespace SW
open PySem
mutual
/-- one and the same, of the same kind -/
def vis : Val → Val → Bool
  | .non, y => match y with | .non => true | _ => false
  | .bl a, y => match y with | .bl b => a == b | _ => false
  | .int i, y => match y with | .int j => decide (i = j) | _ => false
  | .str x, y => match y with | .str z => x == z | _ => false
  | .tup xs, y => match y with | .tup ys => viss xs ys | _ => false
  | .lst xs, y => match y with | .lst ys => viss xs ys | _ => false
  | .dct _ _, _ => false
  | .ins _ _, _ => false
  | .ref _, _ => false
def viss : List Val → List Val → Bool
  | [], ys => match ys with | [] => true | _ :: _ => false
  | x :: xs, ys => match ys with | [] => false | y :: ys => vis x y && viss xs ys
end
theorem viss_zip : ∀ xs ys : List Val, viss xs ys = (decide (xs.length = ys.length) && (xs.zip ys).all fun p => vis p.1 p.2)
  | [], [] => rfl
  | [], _ :: _ => rfl
  | _ :: _, [] => rfl
  | x :: xs, y :: ys => by
    simp only [viss, viss_zip xs ys, List.length_cons, Nat.add_right_cancel_iff, List.zip_cons_cons, List.all_cons]
    cases vis x y <;> cases decide (xs.length = ys.length) <;> rfl
theorem dats_mem2 : ∀ {vs : List Val} {n : Nat}, dats vs n = true → ∀ v ∈ vs, dat v n = true
  | x :: xs, n, h, v, hv => by
    simp only [dats, Bool.and_eq_true] at h
    rcases List.mem_cons.mp hv with e | e
    · rw [e]; exact h.1
    · exact dats_mem2 h.2 v e
mutual
theorem dat_fr : ∀ (v : Val) (n : Nat), dat v n = true → free v = true
  | .non, _, _ => rfl
  | .bl _, _, _ => rfl
  | .int _, _, _ => rfl
  | .str _, _, _ => rfl
  | .tup xs, n, h => by
    cases n with
    | zero => simp [dat] at h
    | succ n => unfold free; exact dats_frs xs n (by simpa only [dat] using h)
  | .lst xs, n, h => by
    cases n with
    | zero => simp [dat] at h
    | succ n => unfold free; exact dats_frs xs n (by simpa only [dat] using h)
  | .dct _ _, _, h => by simp [dat] at h
  | .ins _ _, _, h => by simp [dat] at h
  | .ref _, _, h => by simp [dat] at h
theorem dats_frs : ∀ (v : List Val) (n : Nat), dats v n = true → frees v = true
  | [], _, _ => rfl
  | x :: xs, n, h => by
    simp only [dats, Bool.and_eq_true] at h
    unfold frees
    rw [dat_fr x n h.1, dats_frs xs n h.2]; rfl
end
def isA (self : Dm) : Stm := (sSeq (sIf (eUn (gIsi2 .tup .lst) (eVar 1)) (sSeq (sIf (eBin gNe (eUn (gIsi .tup) (eVar 0)) (eUn (gIsi .tup) (eVar 1))) (sRet (eC (.bl false))) sNil)
    (sSeq (sIf (kOr (eBin gNe (eUn (gIsi .lst) (eVar 0)) (eUn (gIsi .lst) (eVar 1))) (eBin gNe (eCall gLen [(eVar 0)]) (eCall gLen [(eVar 1)]))) (sRet (eC (.bl false))) sNil)
    (sRet (eCall gAll [(eFrz (eComp (sZip [(eVar 0), (eVar 1)]) (gUnp 2 (gsCons (gSet 2) (gsCons (gSet 3) gsNil))) none (eCallP self [(eVar 2), (eVar 3)]) [2, 3]))])))) sNil)
    (sSeq (sIf (kOr (eBin gIs (eVar 1) (eC .non)) (eBin gIs (eVar 0) (eC .non))) (sRet (eAnd (eBin gIs (eVar 1) (eC .non)) (eBin gIs (eVar 0) (eC .non)))) sNil)
    (sSeq (sIf (eBin gNe (eUn (gIsi .bool) (eVar 0)) (eUn (gIsi .bool) (eVar 1))) (sRet (eC (.bl false))) sNil)
    (sRet (eAnd (eBin gEq (eUn (gIsi .str) (eVar 0)) (eUn (gIsi .str) (eVar 1))) (eBin gEq (eVar 0) (eVar 1)))))))
def isB (self : Dm) : Stm := (sSeq (sIf (kOr (eUn (gIsi .tup) (eVar 1)) (eUn (gIsi .lst) (eVar 1))) (sSeq (sIf (kOr (eBin gNe (eUn (gIsi .tup) (eVar 0)) (eUn (gIsi .tup) (eVar 1))) (eBin gNe (eUn (gIsi .lst) (eVar 0)) (eUn (gIsi .lst) (eVar 1)))) (sRet (eC (.bl false))) sNil)
    (sRet (eAnd (eBin gEq (eCall gLen [(eVar 0)]) (eCall gLen [(eVar 1)])) (eCall gAll [(eFrz (eComp (sZip [(eVar 0), (eVar 1)]) (gUnp 2 (gsCons (gSet 2) (gsCons (gSet 3) gsNil))) none (eCallP self [(eVar 2), (eVar 3)]) [2, 3]))])))) sNil)
    (sSeq (sIf (kOr (eBin gNe (eUn (gIsi .bool) (eVar 0)) (eUn (gIsi .bool) (eVar 1))) (eBin gNe (eBin gIs (eVar 0) (eC .non)) (eBin gIs (eVar 1) (eC .non)))) (sRet (eC (.bl false))) sNil)
    (sRet (eAnd (eBin gEq (eUn (gIsi .int) (eVar 0)) (eUn (gIsi .int) (eVar 1))) (eBin gEq (eVar 0) (eVar 1))))))
def isC (self : Dm) : Stm := (sSeq (sIf (eUn (gIsi2 .tup .lst) (eVar 1)) (sSeq (sIf (kOr (eBin gNe (eUn (gIsi .tup) (eVar 0)) (eUn (gIsi .tup) (eVar 1))) (eBin gNe (eUn (gIsi .lst) (eVar 0)) (eUn (gIsi .lst) (eVar 1)))) (sRet (eC (.bl false))) sNil)
    (sRet (eAnd (eBin gEq (eCall gLen [(eVar 0)]) (eCall gLen [(eVar 1)])) (eCall gAll [(eFrz (eComp (sZip [(eVar 0), (eVar 1)]) (gUnp 2 (gsCons (gSet 2) (gsCons (gSet 3) gsNil))) none (eCallP self [(eVar 2), (eVar 3)]) [2, 3]))])))) sNil)
    (sSeq (sIf (kOr (eBin gIs (eVar 1) (eC .non)) (eBin gIs (eVar 0) (eC .non))) (sRet (eAnd (eBin gIs (eVar 1) (eC .non)) (eBin gIs (eVar 0) (eC .non)))) sNil)
    (sSeq (sIf (kOr (eBin gNe (eUn (gIsi .bool) (eVar 0)) (eUn (gIsi .bool) (eVar 1))) (eBin gNe (eUn (gIsi .int) (eVar 0)) (eUn (gIsi .int) (eVar 1)))) (sRet (eC (.bl false))) sNil)
    (sRet (eAnd (eBin gEq (eUn (gIsi .str) (eVar 0)) (eUn (gIsi .str) (eVar 1))) (eBin gEq (eVar 0) (eVar 1)))))))
/-- one step -/
def IsStep (b : Dm → Stm) : Prop := ∀ (n : Nat) (self : Dm), n ≤ 60 → (∀ m, n = m + 1 → ∀ v w h, dat v m = true → dat w m = true → self [v, w] h = .ok (.bl (vis v w)) h) → ∀ v w h, dat v n = true → dat w n = true → defRun 4 (b self) [v, w] h = .ok (.bl (vis v w)) h
theorem view_dat {v : Val} {n : Nat} (h : PH) (e : dat v n = true) : view h v = v := by cases v <;> first | rfl | simp [dat] at e
theorem eq_dat {v w : Val} {n : Nat} {h : PH} (hn : n ≤ 60) (e1 : dat v n = true) (e2 : dat w n = true) : gEq h v w = some (.bl (veq v w)) := by
  simp only [gEq, dd, view_dat h e1, view_dat h e2, dat_up e1 hn, dat_up e2 hn, Bool.and_self, if_true]
section
variable {n : Nat} {self : Dm} (ih : ∀ v w h, dat v n = true → dat w n = true → self [v, w] h = .ok (.bl (vis v w)) h)
include ih
theorem is_el (xs ys : List Val) (h : PH) (hx : dats xs n = true) (hy : dats ys n = true) : mapS (fun (a : Val × Val) h' => ((apart self [a.1, a.2] h').bind fun v h1 => Res.ok [v] h1).noexc) (xs.zip ys) h = .ok ((xs.zip ys).map fun p => .bl (vis p.1 p.2)) h := by
  rw [mapS_flat (F := fun p => [.bl (vis p.1 p.2)]), flatMap_one]
  intro a ha
  have d1 := dats_mem2 hx a.1 (List.of_mem_zip ha).1
  have d2 := dats_mem2 hy a.2 (List.of_mem_zip ha).2
  rw [ap (ih a.1 a.2 [] d1 d2) (by simp [dat_fr _ _ d1, dat_fr _ _ d2]) rfl]; rfl
end
theorem isA_step : IsStep isA := by
  intro n self hn ih v w h hv hw
  have eqd : gEq h v w = some (.bl (veq v w)) := eq_dat hn hv hw
  rw [defRun_eq]
  show fin (isA self [some v, some w, none, none] h) = _
  cases v with
  | tup xs =>
    obtain ⟨n, rfl⟩ : ∃ m, n = m + 1 := by cases n with
      | zero => simp [dat] at hv
      | succ m => exact ⟨m, rfl⟩
    have el := is_el (ih n rfl)
    have hx : dats xs n = true := by simpa only [dat] using hv
    cases w with
    | tup ys =>
      have hy : dats ys n = true := by simpa only [dat] using hw
      have e := el xs ys h hx hy
      by_cases q : xs.length = ys.length
      · simp [isA, c_zipT, mapS_map, -List.map_map, e, all_bl, vis, viss_zip, q, -List.all_eq_true]
      · have q2 : ¬ ((xs.length : Int) = ys.length) := by omega
        simp [isA, vis, viss_zip, q, q2]
    | dct _ _ => simp [dat] at hw
    | ins _ _ => simp [dat] at hw
    | ref _ => simp [dat] at hw
    | _ => simp [isA, vis, eqd, veq]
  | lst xs =>
    obtain ⟨n, rfl⟩ : ∃ m, n = m + 1 := by cases n with
      | zero => simp [dat] at hv
      | succ m => exact ⟨m, rfl⟩
    have el := is_el (ih n rfl)
    have hx : dats xs n = true := by simpa only [dat] using hv
    cases w with
    | lst ys =>
      have hy : dats ys n = true := by simpa only [dat] using hw
      have e := el xs ys h hx hy
      by_cases q : xs.length = ys.length
      · simp [isA, c_zipL, mapS_map, -List.map_map, e, all_bl, vis, viss_zip, q, -List.all_eq_true]
      · have q2 : ¬ ((xs.length : Int) = ys.length) := by omega
        simp [isA, vis, viss_zip, q, q2]
    | dct _ _ => simp [dat] at hw
    | ins _ _ => simp [dat] at hw
    | ref _ => simp [dat] at hw
    | _ => simp [isA, vis, eqd, veq]
  | dct _ _ => simp [dat] at hv
  | ins _ _ => simp [dat] at hv
  | ref _ => simp [dat] at hv
  | non => cases w <;> first | (simp [dat] at hw; done) | simp [isA, vis, eqd, veq]
  | bl a => cases w <;> first | (simp [dat] at hw; done) | simp [isA, vis, eqd, veq]
  | int a => cases w <;> first | (simp [dat] at hw; done) | simp [isA, vis, eqd, veq]
  | str a => cases w <;> first | (simp [dat] at hw; done) | simp [isA, vis, eqd, veq]
theorem isB_step : IsStep isB := by
  intro n self hn ih v w h hv hw
  have eqd : gEq h v w = some (.bl (veq v w)) := eq_dat hn hv hw
  rw [defRun_eq]
  show fin (isB self [some v, some w, none, none] h) = _
  cases v with
  | tup xs =>
    obtain ⟨n, rfl⟩ : ∃ m, n = m + 1 := by cases n with
      | zero => simp [dat] at hv
      | succ m => exact ⟨m, rfl⟩
    have el := is_el (ih n rfl)
    have hx : dats xs n = true := by simpa only [dat] using hv
    cases w with
    | tup ys =>
      have hy : dats ys n = true := by simpa only [dat] using hw
      have e := el xs ys h hx hy
      by_cases q : xs.length = ys.length
      · simp [isB, c_zipT, mapS_map, -List.map_map, e, all_bl, vis, viss_zip, q, -List.all_eq_true]
      · have q2 : ¬ ((xs.length : Int) = ys.length) := by omega
        simp [isB, vis, viss_zip, q, q2]
    | dct _ _ => simp [dat] at hw
    | ins _ _ => simp [dat] at hw
    | ref _ => simp [dat] at hw
    | _ => simp [isB, vis, eqd, veq]
  | lst xs =>
    obtain ⟨n, rfl⟩ : ∃ m, n = m + 1 := by cases n with
      | zero => simp [dat] at hv
      | succ m => exact ⟨m, rfl⟩
    have el := is_el (ih n rfl)
    have hx : dats xs n = true := by simpa only [dat] using hv
    cases w with
    | lst ys =>
      have hy : dats ys n = true := by simpa only [dat] using hw
      have e := el xs ys h hx hy
      by_cases q : xs.length = ys.length
      · simp [isB, c_zipL, mapS_map, -List.map_map, e, all_bl, vis, viss_zip, q, -List.all_eq_true]
      · have q2 : ¬ ((xs.length : Int) = ys.length) := by omega
        simp [isB, vis, viss_zip, q, q2]
    | dct _ _ => simp [dat] at hw
    | ins _ _ => simp [dat] at hw
    | ref _ => simp [dat] at hw
    | _ => simp [isB, vis, eqd, veq]
  | dct _ _ => simp [dat] at hv
  | ins _ _ => simp [dat] at hv
  | ref _ => simp [dat] at hv
  | non => cases w <;> first | (simp [dat] at hw; done) | simp [isB, vis, eqd, veq]
  | bl a => cases w <;> first | (simp [dat] at hw; done) | simp [isB, vis, eqd, veq]
  | int a => cases w <;> first | (simp [dat] at hw; done) | simp [isB, vis, eqd, veq]
  | str a => cases w <;> first | (simp [dat] at hw; done) | simp [isB, vis, eqd, veq]
theorem isC_step : IsStep isC := by
  intro n self hn ih v w h hv hw
  have eqd : gEq h v w = some (.bl (veq v w)) := eq_dat hn hv hw
  rw [defRun_eq]
  show fin (isC self [some v, some w, none, none] h) = _
  cases v with
  | tup xs =>
    obtain ⟨n, rfl⟩ : ∃ m, n = m + 1 := by cases n with
      | zero => simp [dat] at hv
      | succ m => exact ⟨m, rfl⟩
    have el := is_el (ih n rfl)
    have hx : dats xs n = true := by simpa only [dat] using hv
    cases w with
    | tup ys =>
      have hy : dats ys n = true := by simpa only [dat] using hw
      have e := el xs ys h hx hy
      by_cases q : xs.length = ys.length
      · simp [isC, c_zipT, mapS_map, -List.map_map, e, all_bl, vis, viss_zip, q, -List.all_eq_true]
      · have q2 : ¬ ((xs.length : Int) = ys.length) := by omega
        simp [isC, vis, viss_zip, q, q2]
    | dct _ _ => simp [dat] at hw
    | ins _ _ => simp [dat] at hw
    | ref _ => simp [dat] at hw
    | _ => simp [isC, vis, eqd, veq]
  | lst xs =>
    obtain ⟨n, rfl⟩ : ∃ m, n = m + 1 := by cases n with
      | zero => simp [dat] at hv
      | succ m => exact ⟨m, rfl⟩
    have el := is_el (ih n rfl)
    have hx : dats xs n = true := by simpa only [dat] using hv
    cases w with
    | lst ys =>
      have hy : dats ys n = true := by simpa only [dat] using hw
      have e := el xs ys h hx hy
      by_cases q : xs.length = ys.length
      · simp [isC, c_zipL, mapS_map, -List.map_map, e, all_bl, vis, viss_zip, q, -List.all_eq_true]
      · have q2 : ¬ ((xs.length : Int) = ys.length) := by omega
        simp [isC, vis, viss_zip, q, q2]
    | dct _ _ => simp [dat] at hw
    | ins _ _ => simp [dat] at hw
    | ref _ => simp [dat] at hw
    | _ => simp [isC, vis, eqd, veq]
  | dct _ _ => simp [dat] at hv
  | ins _ _ => simp [dat] at hv
  | ref _ => simp [dat] at hv
  | non => cases w <;> first | (simp [dat] at hw; done) | simp [isC, vis, eqd, veq]
  | bl a => cases w <;> first | (simp [dat] at hw; done) | simp [isC, vis, eqd, veq]
  | int a => cases w <;> first | (simp [dat] at hw; done) | simp [isC, vis, eqd, veq]
  | str a => cases w <;> first | (simp [dat] at hw; done) | simp [isC, vis, eqd, veq]
/-- typed -/
structure EncIs {α : Type} (c : α → Val) : Prop where
  is : ∀ (a b : α) [i : Decidable (a = b)], vis (c a) (c b) = decide (a = b)
section
variable {α β γ δ : Type} {c : α → Val} {d : β → Val} {e : γ → Val} {f : δ → Val}
theorem is_i : EncIs encI := ⟨fun a b i => by simp only [encI, vis]; exact decide_eq_decide.mpr Iff.rfl⟩
theorem is_b : EncIs encB := ⟨fun a b i => by simp only [encB, vis]; cases a <;> cases b <;> simp⟩
theorem is_s : EncIs encS := ⟨fun a b i => by
  simp only [encS, vis]; cases q : (a == b) with
  | true => rw [decide_eq_true (eq_of_beq q)]
  | false => rw [decide_eq_false fun z => by subst z; simp at q]⟩
theorem viss_map (o : EncIs c) : ∀ (xs ys : List α) [i : Decidable (xs = ys)], viss (xs.map c) (ys.map c) = decide (xs = ys)
  | [], [], i => by simp [viss]
  | [], _ :: _, i => by simp [viss]
  | _ :: _, [], i => by simp [viss]
  | x :: xs, y :: ys, i => by
    haveI := Classical.propDecidable
    simp only [List.map_cons, viss, o.is, viss_map o xs ys, List.cons.injEq, Bool.decide_and]
theorem is_t (o : EncIs c) : EncIs (encT c) := ⟨fun a b i => by simp only [encT, vis]; exact viss_map o a b⟩
theorem is_l (o : EncIs c) : EncIs (encL c) := ⟨fun a b i => by simp only [encL, vis]; exact viss_map o a b⟩
theorem is_p (o1 : EncIs c) (o2 : EncIs d) : EncIs (encP c d) := ⟨fun a b i => by
  haveI := Classical.propDecidable
  obtain ⟨a1, a2⟩ := a
  obtain ⟨b1, b2⟩ := b
  simp only [encP, vis, viss, o1.is, o2.is, Bool.and_true]
  by_cases h1 : a1 = b1 <;> by_cases h2 : a2 = b2 <;> simp [h1, h2]⟩
theorem is_q2 (o1 : EncIs c) (o2 : EncIs d) : EncIs (encQ2 c d) := ⟨fun a b i => by
  have := (is_p o1 o2).is a b
  simp only [encP, encQ2, vis] at this ⊢; exact this⟩
theorem is_p3 (o1 : EncIs c) (o2 : EncIs d) (o3 : EncIs e) : EncIs (encP3 c d e) := ⟨fun a b i => by
  haveI := Classical.propDecidable
  obtain ⟨a1, a2, a3⟩ := a
  obtain ⟨b1, b2, b3⟩ := b
  simp only [encP3, vis, viss, o1.is, o2.is, o3.is, Bool.and_true]
  by_cases h1 : a1 = b1 <;> by_cases h2 : a2 = b2 <;> by_cases h3 : a3 = b3 <;> simp [h1, h2, h3]⟩
theorem is_q3 (o1 : EncIs c) (o2 : EncIs d) (o3 : EncIs e) : EncIs (encQ3 c d e) := ⟨fun a b i => by
  have := (is_p3 o1 o2 o3).is a b
  simp only [encP3, encQ3, vis] at this ⊢; exact this⟩
theorem is_p4 (o1 : EncIs c) (o2 : EncIs d) (o3 : EncIs e) (o4 : EncIs f) : EncIs (encP4 c d e f) := ⟨fun a b i => by
  haveI := Classical.propDecidable
  obtain ⟨a1, a2, a3, a4⟩ := a
  obtain ⟨b1, b2, b3, b4⟩ := b
  simp only [encP4, vis, viss, o1.is, o2.is, o3.is, o4.is, Bool.and_true]
  by_cases h1 : a1 = b1 <;> by_cases h2 : a2 = b2 <;> by_cases h3 : a3 = b3 <;> by_cases h4 : a4 = b4 <;> simp [h1, h2, h3, h4]⟩
theorem is_q4 (o1 : EncIs c) (o2 : EncIs d) (o3 : EncIs e) (o4 : EncIs f) : EncIs (encQ4 c d e f) := ⟨fun a b i => by
  have := (is_p4 o1 o2 o3 o4).is a b
  simp only [encP4, encQ4, vis] at this ⊢; exact this⟩
theorem vis_nn {v : Val} (h : nonB v = false) : vis .non v = false ∧ vis v .non = false := by
  cases v <;> first | (cases h; done) | exact ⟨rfl, rfl⟩
theorem is_o (o : EncIs c) (nn : NnOK c) : EncIs (encO c) := ⟨fun a b i => by
  cases a with
  | none => cases b with
    | none => simp [encO, vis]
    | some y => simp [encO, (vis_nn (nn.nn y)).1]
  | some x => cases b with
    | none => simp [encO, (vis_nn (nn.nn x)).2]
    | some y =>
      haveI := Classical.propDecidable
      simp only [encO, o.is, Option.some.injEq]⟩
end
theorem is_all {b : Dm → Stm} (hb : IsStep b) {r : Nat → Dm} (hr : ∀ n, r (n + 1) = defRun 4 (b (r n))) : ∀ n, n ≤ 60 → ∀ v w h, dat v n = true → dat w n = true → r (n + 1) [v, w] h = .ok (.bl (vis v w)) h
  | 0, hn, v, w, h, hv, hw => by rw [hr]; exact hb 0 _ hn (fun m e => nomatch e) v w h hv hw
  | n + 1, hn, v, w, h, hv, hw => by
    rw [hr]
    exact hb (n + 1) _ hn (fun m e => by
      have : m = n := by omega
      subst this
      exact is_all hb hr m (by omega)) v w h hv hw
theorem is_run {b : Dm → Stm} (hb : IsStep b) {r : Nat → Dm} (hr : ∀ n, r (n + 1) = defRun 4 (b (r n))) {α : Type} [DecidableEq α] {c : α → Val} {n : Nat} (ok : EncOK c n) (is : EncIs c) (hn : n ≤ 19) (x y : α) [i : Decidable (x = y)] (h : PH) :
    Run (apart (r 20) [c x, c y] h) (.ok (decide (x = y))) (Xt encB fun _ => h) := by
  have e := is_all hb hr 19 (by decide) (c x) (c y) [] (dat_up (ok.dt x) hn) (dat_up (ok.dt y) hn)
  rw [is.is] at e
  exact ⟨_, _, ap e (by simp only [frees, ok.fr, Bool.and_self]) rfl, rfl, rfl⟩
end SW

namespace SW
open PySem

/-! ### plain functions that end well -/
def Ok {α : Type} (m : R α) (P : α → Prop) : Prop := ∃ a, m = .ok a ∧ P a
section
variable {α β S : Type} {P : α → Prop} {Q : β → Prop}
theorem Ok.ret {a : α} (h : P a) : Ok (.ok a) P := ⟨a, rfl, h⟩
theorem Ok.bind {m : R α} {k : α → R β} (o : Ok m P) (n : ∀ a, P a → Ok (k a) Q) : Ok (m.bind k) Q := by
  obtain ⟨a, rfl, h⟩ := o; exact n a h
theorem Ok.nx {m : R α} (o : Ok m P) : Ok m.nx P := by obtain ⟨a, rfl, h⟩ := o; exact ⟨a, rfl, h⟩
theorem Ok.mono {m : R α} {P2 : α → Prop} (o : Ok m P) (k : ∀ a, P a → P2 a) : Ok m P2 := by obtain ⟨a, e, h⟩ := o; exact ⟨a, e, k a h⟩
theorem Ok.of {m : R α} {a : α} (e : m = .ok a) (h : P a) : Ok m P := ⟨a, e, h⟩
theorem Ok.eqn {m : R α} {k : α → R β} {a : α} (e : m = .ok a) (n : Ok (k a) Q) : Ok (m.bind k) Q := by subst e; exact n
theorem ok_foldR {f : S → α → R S} {I : S → Prop} : ∀ {xs : List α} {s : S}, I s → (∀ s x, x ∈ xs → I s → Ok (f s x) I) → Ok (foldR xs s f) I
  | [], s, h, _ => Ok.ret h
  | x :: xs, s, h, k => by
    simp only [foldR]
    exact (k s x (List.mem_cons_self ..) h).bind fun s2 h2 => ok_foldR h2 fun s y hy => k s y (List.mem_cons_of_mem _ hy)
/-- the same, with how many are left -/
theorem ok_foldRn {f : S → α → R S} {I : Nat → S → Prop} : ∀ {xs : List α} {s : S}, I xs.length s → (∀ k s x, x ∈ xs → I (k + 1) s → Ok (f s x) (I k)) → Ok (foldR xs s f) (I 0)
  | [], s, h, _ => Ok.ret h
  | x :: xs, s, h, k => by
    simp only [foldR]
    exact (k xs.length s x (List.mem_cons_self ..) h).bind fun s2 h2 => ok_foldRn h2 fun j s y hy => k j s y (List.mem_cons_of_mem _ hy)
theorem foldR_ok {f : S → α → R S} {g : S → α → S} : ∀ {xs : List α} {s : S}, (∀ s x, x ∈ xs → f s x = .ok (g s x)) → foldR xs s f = .ok (xs.foldl g s)
  | [], s, _ => rfl
  | x :: xs, s, k => by
    simp only [foldR, k s x (List.mem_cons_self ..), R.bind_ok, List.foldl_cons]
    exact foldR_ok fun s y hy => k s y (List.mem_cons_of_mem _ hy)
/-- a loop that goes through to its end -/
theorem ok_loopR {f : S → α → R (Lp S β)} {I : S → Prop} : ∀ {xs : List α} {s : S}, I s → (∀ s x, x ∈ xs → I s → Ok (f s x) fun l => ∃ s2, l = .nx s2 ∧ I s2) → Ok (loopR xs s f) fun l => ∃ s2, l = .nx s2 ∧ I s2
  | [], s, h, _ => Ok.ret ⟨s, rfl, h⟩
  | x :: xs, s, h, k => by
    simp only [loopR]
    refine (k s x (List.mem_cons_self ..) h).bind fun l hl => ?_
    obtain ⟨s2, rfl, h2⟩ := hl
    exact ok_loopR h2 fun s y hy => k s y (List.mem_cons_of_mem _ hy)
theorem ok_mapR {f : α → R β} {T : α → β → Prop} : ∀ {xs : List α}, (∀ x ∈ xs, Ok (f x) (T x)) → Ok (mapR xs f) fun ys => ys.length = xs.length ∧ ∀ y ∈ ys, ∃ x ∈ xs, T x y
  | [], _ => Ok.ret ⟨rfl, fun y hy => by cases hy⟩
  | x :: xs, h => by
    simp only [mapR]
    refine (h x (List.mem_cons_self ..)).nx.bind fun y hy => (ok_mapR fun z hz => h z (List.mem_cons_of_mem _ hz)).bind fun ys hys => Ok.ret ⟨by simp [hys.1], fun w hw => ?_⟩
    rcases List.mem_cons.mp hw with e | e
    · subst e; exact ⟨x, List.mem_cons_self .., hy⟩
    · obtain ⟨x2, h1, h2⟩ := hys.2 w e
      exact ⟨x2, List.mem_cons_of_mem _ h1, h2⟩
theorem ok_mapSR {f : S → α → R (Option β × S)} {I : S → Prop} {T : α → β → Prop} : ∀ {xs : List α} {s : S}, I s → (∀ s x, x ∈ xs → I s → Ok (f s x) fun p => (∀ y, p.1 = some y → T x y) ∧ I p.2) → Ok (mapSR xs s f) fun q => (∀ y ∈ q.1, ∃ x ∈ xs, T x y) ∧ I q.2
  | [], s, h, _ => Ok.ret ⟨(fun y hy => by cases hy), h⟩
  | x :: xs, s, h, k => by
    simp only [mapSR]
    refine (k s x (List.mem_cons_self ..) h).nx.bind fun p hp => (ok_mapSR (s := p.2) hp.2 fun s y hy => k s y (List.mem_cons_of_mem _ hy)).bind fun q hq => Ok.ret ⟨fun w hw => ?_, hq.2⟩
    rcases List.mem_append.mp hw with e | e
    · exact ⟨x, List.mem_cons_self .., hp.1 w (by simpa using e)⟩
    · obtain ⟨x2, h1, h2⟩ := hq.1 w e
      exact ⟨x2, List.mem_cons_of_mem _ h1, h2⟩
/-- kept as they stand: a sublist -/
theorem ok_mapSR_sub {f : S → α → R (Option α × S)} {I : S → Prop} : ∀ {xs : List α} {s : S}, I s → (∀ s x, x ∈ xs → I s → Ok (f s x) fun p => (p.1 = none ∨ p.1 = some x) ∧ I p.2) → Ok (mapSR xs s f) fun q => List.Sublist q.1 xs ∧ I q.2
  | [], s, h, _ => Ok.ret ⟨List.Sublist.refl _, h⟩
  | x :: xs, s, h, k => by
    simp only [mapSR]
    refine (k s x (List.mem_cons_self ..) h).nx.bind fun p hp => (ok_mapSR_sub (s := p.2) hp.2 fun s y hy => k s y (List.mem_cons_of_mem _ hy)).bind fun q hq => Ok.ret ⟨?_, hq.2⟩
    rcases hp.1 with e | e
    · rw [e]; exact hq.1.cons x
    · rw [e]; exact hq.1.cons₂ x
theorem ok_whR {c : S → R Bool} {f : S → R S} {I : S → Prop} (μ : S → Nat) (hc : ∀ s, I s → Ok (c s) fun b => b = true → Ok (f s) fun s2 => I s2 ∧ μ s2 < μ s) : ∀ (n : Nat) (s : S), I s → μ s < n → Ok (whR n c f s) fun s2 => I s2 ∧ c s2 = .ok false
  | 0, s, _, h => by omega
  | n + 1, s, hi, h => by
    simp only [whR]
    obtain ⟨b, eb, hb⟩ := hc s hi
    rw [eb, R.bind_ok]
    cases b with
    | false => exact Ok.ret ⟨hi, eb⟩
    | true => exact (hb rfl).bind fun s2 h2 => ok_whR μ hc n s2 h2.1 (by omega)
theorem ok_whT {c : S → R Bool} {f : S → R S} {I : S → Prop} (μ : S → Nat) (hc : ∀ s, I s → Ok (c s) fun b => b = true → Ok (f s) fun s2 => I s2 ∧ μ s2 < μ s) {s : S} (hi : I s) (h : μ s < 1000000) : Ok (whR (trn 0) c f s) fun s2 => I s2 ∧ c s2 = .ok false := by
  rw [trn0]; exact ok_whR μ hc _ s hi h
/-- a filter with a test that may fail -/
theorem mapSR_test {f : α → R Bool} {p : α → Bool} : ∀ {xs : List α}, (∀ x ∈ xs, f x = .ok (p x)) → mapSR xs () (fun (v : Unit) x => (f x).bind fun b => if b = true then R.ok (some x, ()) else R.ok (none, ())) = .ok (xs.filter p, ())
  | [], _ => rfl
  | x :: xs, h => by
    simp only [mapSR, h x (List.mem_cons_self ..), R.bind_ok, mapSR_test fun y hy => h y (List.mem_cons_of_mem _ hy), List.filter_cons]
    cases p x <;> rfl
theorem mapSR_pure {F : α → Option β} : ∀ {xs : List α}, mapSR xs () (fun (v : Unit) x => R.ok (F x, ())) = .ok (xs.filterMap F, ())
  | [] => rfl
  | x :: xs => by
    simp only [mapSR, R.nx_ok, R.bind_ok, mapSR_pure (xs := xs), List.filterMap_cons]
    cases F x <;> rfl
end
/-! ### operations -/
theorem idxR_ok {α : Type} {xs : List α} {i : Int} (h0 : 0 ≤ i) (h1 : i < xs.length) : idxR xs i = .ok (xs[i.toNat]'(by omega)) := by
  unfold idxR
  rw [atI_nat h0 h1, List.getElem?_eq_getElem (by omega)]
theorem ok_idxR {α : Type} {xs : List α} {i : Int} (h0 : 0 ≤ i) (h1 : i < xs.length) : Ok (idxR xs i) fun x => x ∈ xs := ⟨_, idxR_ok h0 h1, List.getElem_mem _⟩
theorem modR_ok {i j : Int} (h : 0 < j) : modR i j = .ok (i % j) := by unfold modR; rw [if_pos (by simpa using h)]
theorem divR_ok {i j : Int} (h : 0 < j) (h1 : j < 1073741824) : divR i j = .ok (i / j) := by unfold divR; rw [if_pos (by simp [h, h1])]
theorem mulR_l {i j : Int} (h : fac i = true) : mulR i j = .ok (i * j) := by unfold mulR; rw [if_pos (by simp [h])]
theorem mulR_r {i j : Int} (h : fac j = true) : mulR i j = .ok (i * j) := by unfold mulR; rw [if_pos (by simp [h])]
theorem fac_small {i : Int} (h0 : -1000000000000 ≤ i) (h1 : i ≤ 1000000000000) : fac i = true := by
  simp only [fac, Bool.and_eq_true, decide_eq_true_eq]; omega
theorem rngR_ok {i j : Int} (h0 : -1000000 ≤ i) (h1 : i ≤ 1000000) (h2 : -1000000 ≤ j) (h3 : j ≤ 1000000) (h4 : j - i ≤ 1000000) : rngR i j = .ok (rng2 i j) := by
  unfold rngR; rw [if_pos]; simp only [Bool.and_eq_true, decide_eq_true_eq]; omega
theorem rngR_0 {j : Int} (h2 : -1000000 ≤ j) (h3 : j ≤ 1000000) : rngR 0 j = .ok (rng j) := by rw [rngR_ok (by omega) (by omega) h2 h3 (by omega), rng2_0]
theorem catR_ok {α : Type} {xs ys : List α} (h : xs.length + ys.length ≤ 1000000) : catR xs ys = .ok (xs ++ ys) := if_pos h
theorem snocR_ok {α : Type} {xs : List α} {x : α} (h : xs.length < 1000000) : snocR xs x = .ok (xs ++ [x]) := if_pos h
theorem cut_from {α : Type} (xs : List α) (k : Nat) (h : k ≤ xs.length) : cutL xs (some (k : Int)) none = xs.drop k := by
  unfold cutL
  rw [HT.sIx_nat, HT.sIx_none, Nat.min_eq_left h, ← List.length_drop, List.take_length]
theorem cut_to {α : Type} (xs : List α) (k : Nat) (h : k ≤ xs.length) : cutL xs none (some (k : Int)) = xs.take k := by
  unfold cutL
  rw [HT.sIx_nat, HT.sIx_none, Nat.min_eq_left h, List.drop_zero, Nat.sub_zero]
theorem length_rng {j : Int} : (rng j).length = j.toNat := by simp [rng]

/-! ### the hand of a law -/
abbrev Hand := List Int × Int × Int × Int × Int
def HndOK (h : Hand) : Prop := (∀ x ∈ h.1, 0 ≤ x) ∧ 0 ≤ h.2.1 ∧ 0 ≤ h.2.2.1
def DrawOK (draw : Hand → Int → R (Int × Hand)) : Prop := ∀ (h : Hand) (m : Int), HndOK h → 0 < m → m < 1073741824 → Ok (draw h m) fun p => 0 ≤ p.1 ∧ p.1 < m ∧ HndOK p.2
/-- from the cells of a script -/
theorem hand_cells (ns : List Int) (c : Int) : HndOK (List.map (fun v => absI v) (cutL ns none (some 63)), 0, 0, c, 0) := by
  refine ⟨fun x hx => ?_, Int.le_refl 0, Int.le_refl 0⟩
  obtain ⟨y, _, rfl⟩ := List.mem_map.mp hx
  unfold absI; split <;> omega
/-- drawing an item -/
def anyG {α : Type} (draw : Hand → Int → R (Int × Hand)) (h : Hand) (xs : List α) : R (α × Hand) := (draw h ((xs.length : Nat) : Int)).nx.bind fun v1 => (idxR xs v1.1).bind fun v2 => R.ok (v2, v1.2)
theorem any_ok {α : Type} {draw : Hand → Int → R (Int × Hand)} (hd : DrawOK draw) {h : Hand} {xs : List α} (ho : HndOK h) (h0 : xs ≠ []) (h1 : xs.length < 1073741824) : Ok (anyG draw h xs) fun p => p.1 ∈ xs ∧ HndOK p.2 := by
  have : 0 < xs.length := List.length_pos_iff.mpr h0
  exact (hd h _ ho (by omega) (by omega)).nx.bind fun p hp => (ok_idxR hp.1 hp.2.1).bind fun x hx => Ok.ret ⟨hx, hp.2.2⟩
/-- things mixed -/
def mixedG {α : Type} (draw : Hand → Int → R (Int × Hand)) (a0 : Hand) (a1 : List α) : R (List α × Hand) :=
  (whR (trn 0) (fun (v1 : Hand × List α × List α) => R.ok (decide (0 < ((v1.2.1.length : Nat) : Int)))) (fun v1 => (draw v1.1 ((v1.2.1.length : Nat) : Int)).nx.bind fun v2 => (popAtR v1.2.1 v2.1).bind fun v3 => (snocR v1.2.2 v3.2).bind fun v4 => R.ok (v2.2, v3.1, v4)) (a0, a1, [])).bind fun v5 => R.ok (v5.2.2, v5.1)
theorem perm_pop {α : Type} : ∀ {xs : List α} {k : Nat} (h : k < xs.length), List.Perm (xs[k] :: xs.eraseIdx k) xs
  | x :: xs, 0, _ => List.Perm.refl _
  | x :: xs, k + 1, h => by
    simp only [List.getElem_cons_succ, List.eraseIdx_cons_succ]
    exact (List.Perm.swap _ _ _).trans ((perm_pop (by simpa using h)).cons x)
theorem mixed_ok {α : Type} {draw : Hand → Int → R (Int × Hand)} (hd : DrawOK draw) {h : Hand} {xs : List α} (ho : HndOK h) (h1 : xs.length < 1000000) : Ok (mixedG draw h xs) fun p => List.Perm p.1 xs ∧ HndOK p.2 := by
  unfold mixedG
  refine (ok_whT (I := fun s => HndOK s.1 ∧ List.Perm (s.2.2 ++ s.2.1) xs) (fun s => s.2.1.length) (fun s hs => Ok.ret fun hb => ?_) (s := (h, xs, [])) ⟨ho, by simp⟩ h1).bind fun s hs => ?_
  · have hpos : 0 < s.2.1.length := by simpa using hb
    have hlen : s.2.2.length + s.2.1.length = xs.length := by rw [← List.length_append]; exact hs.2.length_eq
    refine (hd s.1 _ hs.1 (by omega) (by omega)).nx.bind fun p hp => ?_
    have hk : p.1.toNat < s.2.1.length := by omega
    have e : popAtR s.2.1 p.1 = .ok (s.2.1.eraseIdx p.1.toNat, s.2.1[p.1.toNat]) := by
      unfold popAtR
      rw [if_pos (by simp only [Bool.and_eq_true, decide_eq_true_eq]; omega), List.getElem?_eq_getElem hk]
    refine Ok.eqn e (Ok.eqn (snocR_ok (by omega)) (Ok.ret ⟨⟨hp.2.2, ?_⟩, ?_⟩))
    · show List.Perm ((s.2.2 ++ [s.2.1[p.1.toNat]]) ++ s.2.1.eraseIdx p.1.toNat) xs
      rw [List.append_assoc, List.singleton_append]
      exact (List.Perm.append_left _ (perm_pop hk)).trans hs.2
    · show (s.2.1.eraseIdx p.1.toNat).length < s.2.1.length
      rw [List.length_eraseIdx_of_lt hk]; omega
  · have hz : s.2.1 = [] := by
      have := hs.2
      simp only [R.ok.injEq, decide_eq_false_iff_not] at this
      exact List.length_eq_zero_iff.mp (by omega)
    refine Ok.ret ⟨?_, hs.1.1⟩
    have := hs.1.2
    rw [hz, List.append_nil] at this
    exact this

/-- closed computations -/
def R.is {α : Type} [DecidableEq α] (m : R α) (a : α) : Bool := match m with | .ok b => decide (b = a) | _ => false
theorem R.is_ok {α : Type} [DecidableEq α] {m : R α} {a : α} (h : m.is a = true) : m = .ok a := by
  cases m with
  | ok b => exact congrArg R.ok (of_decide_eq_true h)
  | ex _ => cases h
  | st => cases h
def R.get {α : Type} (m : R α) (d : α) : α := match m with | .ok b => b | _ => d
def R.good {α : Type} (m : R α) : Bool := match m with | .ok b => true | _ => false
theorem R.good_ok {α : Type} {m : R α} (d : α) (h : m.good = true) : m = .ok (m.get d) := by cases m <;> first | rfl | cases h
/-- all lots of some things -/
def subs {α : Type} : List α → List (List α)
  | [] => [[]]
  | x :: xs => subs xs ++ (subs xs).map (x :: ·)
theorem mem_subs {α : Type} : ∀ {xs ys : List α}, List.Sublist ys xs → ys ∈ subs xs
  | [], ys, h => by cases h; simp [subs]
  | x :: xs, ys, h => by
    simp only [subs, List.mem_append, List.mem_map]
    cases h with
    | cons _ h => exact .inl (mem_subs h)
    | cons_cons _ h => exact .inr ⟨_, mem_subs h, rfl⟩
theorem sortE_int (xs : List Int) : sortE encI xs = xs.mergeSort fun a b => decide (a ≤ b) := by
  unfold sortE; congr 1; funext a b; rw [lte_i]
  by_cases h : a ≤ b
  · rw [decide_eq_false (by omega), decide_eq_true h]; rfl
  · rw [decide_eq_true (by omega), decide_eq_false h]; rfl
theorem sortE_perm {α : Type} (c : α → Val) (xs : List α) : List.Perm (sortE c xs) xs := List.mergeSort_perm _ _
theorem sortE_sorted (xs : List Int) : List.Pairwise (· ≤ ·) (sortE encI xs) := by
  rw [sortE_int]
  have := List.pairwise_mergeSort (le := fun a b : Int => decide (a ≤ b)) (fun a b c h1 h2 => by simp only [decide_eq_true_eq] at *; omega) (fun a b => by simp only [Bool.or_eq_true, decide_eq_true_eq]; omega) xs
  exact this.imp fun h => by simpa using h
theorem asc_of {xs : List Int} (h : List.Pairwise (· ≤ ·) xs) (hn : xs.Nodup) : List.Pairwise (· < ·) xs := by
  induction xs with
  | nil => exact .nil
  | cons x xs ih =>
    rw [List.pairwise_cons] at h ⊢
    rw [List.nodup_cons] at hn
    exact ⟨fun y hy => by
      have := h.1 y hy
      rcases Int.lt_or_eq_of_le this with q | q
      · exact q
      · subst q; exact absurd hy hn.1, ih h.2 hn.2⟩
theorem rng_pairwise (j : Int) : List.Pairwise (· < ·) (rng j) := by
  unfold rng
  rw [List.pairwise_map]
  exact List.pairwise_lt_range.imp fun h => by simpa using h
/-- ascending lists of what is in an ascending one are sublists -/
theorem sub_asc : ∀ {xs ys : List Int}, List.Pairwise (· < ·) ys → List.Pairwise (· < ·) xs → (∀ y ∈ ys, y ∈ xs) → List.Sublist ys xs
  | [], ys, _, _, h => by
    cases ys with
    | nil => exact .slnil
    | cons y ys => exact absurd (h y (List.mem_cons_self ..)) (by simp)
  | x :: xs, [], _, _, _ => List.nil_sublist _
  | x :: xs, y :: ys, hy, hx, h => by
    rw [List.pairwise_cons] at hy hx
    by_cases e : y = x
    · subst e
      refine .cons₂ _ (sub_asc hy.2 hx.2 fun z hz => ?_)
      rcases List.mem_cons.mp (h z (List.mem_cons_of_mem _ hz)) with q | q
      · have := hy.1 z hz; omega
      · exact q
    · refine .cons _ (sub_asc (List.pairwise_cons.mpr hy) hx.2 fun z hz => ?_)
      rcases List.mem_cons.mp (h z hz) with q | q
      · subst q
        rcases List.mem_cons.mp hz with q2 | q2
        · exact absurd q2.symm e
        · have h1 := hy.1 z q2
          rcases List.mem_cons.mp (h y (List.mem_cons_self ..)) with q3 | q3
          · exact absurd q3 e
          · have := hx.1 y q3; omega
      · exact q
end SW

namespace SW
open PySem
theorem Ok.eqn2 {α β γ : Type} {Q : γ → Prop} {m : R α} {f : α → R β} {k : β → R γ} {b : β} (e : m.bind f = .ok b) (n : Ok (k b) Q) : Ok (m.bind fun a => (f a).bind k) Q := by
  cases m with
  | ok a => have e : f a = .ok b := e; show Ok ((f a).bind k) Q; rw [e]; exact n
  | ex _ => cases e
  | st => cases e
section
variable {α β S : Type}
theorem mapSR_fm {B : Unit → α → R (Option β × Unit)} {G : α → Option β} : ∀ {xs : List α}, (∀ x ∈ xs, B () x = .ok (G x, ())) → mapSR xs () B = .ok (xs.filterMap G, ())
  | [], _ => rfl
  | x :: xs, h => by
    simp only [mapSR, h x (List.mem_cons_self ..), R.nx_ok, R.bind_ok, mapSR_fm fun y hy => h y (List.mem_cons_of_mem _ hy), List.filterMap_cons]
    cases G x <;> rfl
theorem foldR_snoc {f : List β → α → R (List β)} {g : α → β} : ∀ {xs : List α} {s : List β}, s.length + xs.length ≤ 1000000 → (∀ s x, x ∈ xs → s.length < 1000000 → f s x = .ok (s ++ [g x])) → foldR xs s f = .ok (s ++ xs.map g)
  | [], s, _, _ => by simp [foldR]
  | x :: xs, s, hl, h => by
    simp only [List.length_cons] at hl
    simp only [foldR, h s x (List.mem_cons_self ..) (by omega), R.bind_ok]
    rw [foldR_snoc (by simp only [List.length_append, List.length_singleton]; omega) fun s y hy => h s y (List.mem_cons_of_mem _ hy)]
    simp
theorem foldR_sum {f : Int → α → R Int} {g : α → Int} : ∀ {xs : List α} {s : Int}, (∀ s x, x ∈ xs → f s x = .ok (s + g x)) → foldR xs s f = .ok (s + (xs.map g).sum)
  | [], s, _ => by simp [foldR]
  | x :: xs, s, h => by
    simp only [foldR, h s x (List.mem_cons_self ..), R.bind_ok]
    rw [foldR_sum fun s y hy => h s y (List.mem_cons_of_mem _ hy)]
    simp [Int.add_assoc]
theorem idxR_last {xs : List α} (h : xs ≠ []) : idxR xs (-1) = .ok (xs.getLast h) := by
  have hp := List.length_pos_iff.mpr h
  unfold idxR L2.atI L2.ixN
  rw [if_neg (by omega), if_pos (by omega)]
  have : ((-1 : Int) + xs.length).toNat = xs.length - 1 := by omega
  simp only [Option.bind_some, this]
  rw [List.getLast_eq_getElem, List.getElem?_eq_getElem (by omega)]
theorem enumI_length (xs : List α) : (enumI xs).length = xs.length := by simp [enumI, length_rng]
theorem enumI_get (xs : List α) (i : Nat) (h : i < (enumI xs).length) : (enumI xs)[i] = ((i : Int), xs[i]'(by rw [enumI_length] at h; exact h)) := by
  simp [enumI, rng]
theorem enumI_map (f : α → β) (xs : List α) : enumI (xs.map f) = (enumI xs).map fun p => (p.1, f p.2) := by
  apply List.ext_getElem
  · simp [enumI_length]
  · intro i h1 h2
    rw [enumI_get]; simp [enumI_get]
theorem rng_get (n : Int) (i : Nat) (h : i < (rng n).length) : (rng n)[i] = (i : Int) := by simp [rng]
theorem enumI_rng (n : Int) (g : Int → β) : enumI ((rng n).map g) = (rng n).map fun w => (w, g w) := by
  apply List.ext_getElem
  · simp [enumI_length]
  · intro i h1 h2
    rw [enumI_get]; simp [rng_get]
theorem enumI_mem {xs : List α} {p : Int × α} (h : p ∈ enumI xs) : p.2 ∈ xs ∧ 0 ≤ p.1 ∧ p.1 < xs.length := by
  obtain ⟨i, hi, rfl⟩ := List.getElem_of_mem h
  have hl := hi
  rw [enumI_length] at hl
  rw [enumI_get]
  exact ⟨List.getElem_mem _, by show (0 : Int) ≤ (i : Int); omega, by show (i : Int) < _; omega⟩
/-- what is a map up to an exchange is a map of the exchanged -/
theorem perm_map_ex {f : α → β} {l m : List β} (h : List.Perm l m) : ∀ l2 : List α, m = l2.map f → ∃ l3, List.Perm l3 l2 ∧ l = l3.map f := by
  induction h with
  | nil => intro l2 e; cases l2 with
    | nil => exact ⟨[], .refl _, rfl⟩
    | cons _ _ => simp at e
  | cons x _ ih => intro l2 e; cases l2 with
    | nil => simp at e
    | cons a l2 =>
      simp only [List.map_cons, List.cons.injEq] at e
      obtain ⟨l3, p, q⟩ := ih l2 e.2
      exact ⟨a :: l3, p.cons a, by rw [List.map_cons, ← q, e.1]⟩
  | swap x y l => intro l2 e; match l2, e with
    | [], e => simp at e
    | [_], e => simp at e
    | a :: b :: c, e =>
      simp only [List.map_cons, List.cons.injEq] at e
      exact ⟨b :: a :: c, .swap _ _ _, by simp [e.1, e.2.1, e.2.2]⟩
  | trans _ _ ih1 ih2 =>
    intro l2 e
    obtain ⟨l3, p, q⟩ := ih2 l2 e
    obtain ⟨l4, p2, q2⟩ := ih1 l3 q
    exact ⟨l4, p2.trans p, q2⟩
theorem asc_eq : ∀ {xs ys : List Int}, List.Pairwise (· < ·) xs → List.Pairwise (· < ·) ys → (∀ x, x ∈ xs ↔ x ∈ ys) → xs = ys := by
  intro xs ys hx hy h
  have s1 := sub_asc hx hy fun y hy' => (h y).mp hy'
  have s2 := sub_asc hy hx fun y hy' => (h y).mpr hy'
  exact s1.eq_of_length_le s2.length_le
theorem sort_rng {xs : List Int} {n : Int} (h : List.Perm xs (rng n)) : sortE encI xs = rng n :=
  asc_eq (asc_of (sortE_sorted xs) (((sortE_perm encI xs).trans h).nodup_iff.mpr ((rng_pairwise n).imp fun h e => by omega))) (rng_pairwise n) fun x => ((sortE_perm encI xs).trans h).mem_iff
/-! ### the first least -/
/-- the first with the least worth -/
def bestF (f : α → Int) (p : Int × α) (y : α) : Int × α := if f y < p.1 then (f y, y) else p
theorem best_inv (f : α → Int) : ∀ (xs pre : List α) (p : Int × α), p.1 = f p.2 → (∀ o ∈ pre, p.1 ≤ f o) → (pre.filter fun o => decide (f o = p.1)).head? = some p.2 →
    (xs.foldl (bestF f) p).1 = f (xs.foldl (bestF f) p).2 ∧ (∀ o ∈ pre ++ xs, (xs.foldl (bestF f) p).1 ≤ f o) ∧ ((pre ++ xs).filter fun o => decide (f o = (xs.foldl (bestF f) p).1)).head? = some (xs.foldl (bestF f) p).2
  | [], pre, p, h1, h2, h3 => by simp only [List.foldl_nil, List.append_nil]; exact ⟨h1, h2, h3⟩
  | y :: xs, pre, p, h1, h2, h3 => by
    have ea : pre ++ y :: xs = (pre ++ [y]) ++ xs := by simp
    by_cases q : f y < p.1
    · have e : (y :: xs).foldl (bestF f) p = xs.foldl (bestF f) (f y, y) := by rw [List.foldl_cons, show bestF f p y = (f y, y) by unfold bestF; rw [if_pos q]]
      simp only [e, ea]
      refine best_inv f xs (pre ++ [y]) (f y, y) rfl (fun o ho => ?_) ?_
      · rcases List.mem_append.mp ho with z | z
        · have := h2 o z; show f y ≤ f o; omega
        · simp only [List.mem_singleton] at z; subst z; exact Int.le_refl _
      · rw [List.filter_append, List.filter_eq_nil_iff.mpr fun o ho => by have := h2 o ho; simp; show ¬ f o = f y; omega]
        simp
    · have e : (y :: xs).foldl (bestF f) p = xs.foldl (bestF f) p := by rw [List.foldl_cons, show bestF f p y = p by unfold bestF; rw [if_neg q]]
      simp only [e, ea]
      refine best_inv f xs (pre ++ [y]) p h1 (fun o ho => ?_) ?_
      · rcases List.mem_append.mp ho with z | z
        · exact h2 o z
        · simp only [List.mem_singleton] at z; subst z; omega
      · rw [List.filter_append]
        cases e : pre.filter fun o => decide (f o = p.1) with
        | nil => rw [e] at h3; cases h3
        | cons a b => rw [e] at h3; simpa using h3
end
end SW

namespace SW
open PySem

/-! ### dicts as lists of pairs -/
/-- a lot: a dict of ints, each to True -/
def encLot (xs : List Int) : Val := .dct (xs.map .int) (xs.map fun _ => .bl true)
/-- a dict from pairs of ints to lots -/
def encDT (b : List ((Int × Int) × List Int)) : Val := .dct (.non :: b.map fun p => .tup [.int p.1.1, .int p.1.2]) (b.map fun p => encLot p.2)
theorem frees_tr : ∀ xs : List Int, frees (xs.map fun _ => Val.bl true) = true
  | [] => rfl
  | _ :: xs => by simp only [List.map_cons, frees, free, frees_tr xs, Bool.and_self]
theorem free_lot (xs : List Int) : free (encLot xs) = true := by unfold encLot; simp only [free]; exact frees_tr xs
theorem frees_lots : ∀ b : List ((Int × Int) × List Int), frees (b.map fun p => encLot p.2) = true
  | [] => rfl
  | p :: b => by simp only [List.map_cons, frees, free_lot, frees_lots b, Bool.and_self]
theorem free_dt (b : List ((Int × Int) × List Int)) : free (encDT b) = true := by unfold encDT; simp only [free]; exact frees_lots b
def dtR : List ((Int × Int) × List Int) → Int → Int → R (List Int)
  | [], _, _ => .st
  | p :: b, i, j => if p.1.1 = i ∧ p.1.2 = j then .ok p.2 else dtR b i j
theorem lk_dt (i j : Int) : ∀ b : List ((Int × Int) × List Int), OpV (lkV (.tup [.int i, .int j]) (b.map fun p => .tup [.int p.1.1, .int p.1.2]) (b.map fun p => encLot p.2)) (dtR b i j) encLot
  | [] => by simp only [dtR]; trivial
  | p :: b => by
    simp only [List.map_cons, lkV, dtR]
    by_cases e : p.1.1 = i ∧ p.1.2 = j
    · rw [if_pos e, if_pos (by simp [veq, veqs, e])]; rfl
    · rw [if_neg e, if_neg (by simp [veq, veqs]; simpa using e)]; exact lk_dt i j b
theorem v_dt {b : List ((Int × Int) × List Int)} {i j : Int} {h : PH} : OpV (gDGetT h (encDT b) [.int i, .int j]) (dtR b i j) encLot := lk_dt i j b
def sortDR (xs : List Int) : R (List Int) := if xs.length < 64 then .ok (xs.mergeSort fun a b => decide (a ≤ b)) else .st
theorem allInts_map : ∀ xs : List Int, allInts (xs.map Val.int) = some xs
  | [] => rfl
  | x :: xs => by simp only [List.map_cons, allInts, allInts_map xs, Option.map_some]
theorem v_sortD {xs : List Int} {h : PH} : OpV (gSortedD h [encLot xs]) (sortDR xs) fun ys => ys.map encI := by
  unfold sortDR
  by_cases e : xs.length < 64
  · rw [if_pos e]
    show gSortedD h [.dct (xs.map .int) _] = _
    simp only [gSortedD, view, List.length_map, e, decide_true, if_true, allInts_map, Option.map_some]
  · rw [if_neg e]; trivial
section
variable {α β : Type} {Q : α → β → PH → Prop} {h : PH} {r : Ev} {M : R α} {f : Val → SM β} {d : Ex} {ms : List Ex}
theorem c_dgett (o : Run ((d r h).bind fun x h1 => (eArgs ms r h1).bind fun ys h2 => (lift (gDGetT h2 x ys) h2).bind f) M Q) : Run ((eDGetT d ms r h).bind f) M Q := by
  unfold eDGetT; simp only [bind_assoc]; exact o
end

/-! ### equality of values, computed -/
mutual
def vbe : Val → Val → Bool
  | .non, y => match y with | .non => true | _ => false
  | .bl a, y => match y with | .bl b => a == b | _ => false
  | .int i, y => match y with | .int j => decide (i = j) | _ => false
  | .str x, y => match y with | .str z => decide (x = z) | _ => false
  | .tup xs, y => match y with | .tup ys => vbes xs ys | _ => false
  | .lst xs, y => match y with | .lst ys => vbes xs ys | _ => false
  | .dct ks vs, y => match y with | .dct ks' vs' => vbes ks ks' && vbes vs vs' | _ => false
  | .ins c xs, y => match y with | .ins c' ys => decide (c = c') && vbes xs ys | _ => false
  | .ref l, y => match y with | .ref k => decide (l = k) | _ => false
def vbes : List Val → List Val → Bool
  | [], ys => match ys with | [] => true | _ :: _ => false
  | x :: xs, ys => match ys with | [] => false | y :: ys => vbe x y && vbes xs ys
end
mutual
theorem vbe_eq : ∀ {x y : Val}, vbe x y = true → x = y
  | .non, y, e => by cases y <;> simp [vbe] at e ⊢
  | .bl a, y, e => by cases y <;> simp [vbe] at e ⊢; exact e
  | .int a, y, e => by cases y <;> simp [vbe] at e ⊢; exact e
  | .str a, y, e => by cases y <;> simp [vbe] at e ⊢; exact e
  | .tup xs, y, e => by cases y <;> simp [vbe] at e ⊢; exact vbes_eq e
  | .lst xs, y, e => by cases y <;> simp [vbe] at e ⊢; exact vbes_eq e
  | .dct ks vs, y, e => by cases y <;> simp [vbe] at e ⊢; exact ⟨vbes_eq e.1, vbes_eq e.2⟩
  | .ins c vs, y, e => by cases y <;> simp [vbe] at e ⊢; exact ⟨e.1, vbes_eq e.2⟩
  | .ref a, y, e => by cases y <;> simp [vbe] at e ⊢; exact e
theorem vbes_eq : ∀ {xs ys : List Val}, vbes xs ys = true → xs = ys
  | [], [], _ => rfl
  | [], _ :: _, e => by simp [vbes] at e
  | _ :: _, [], e => by simp [vbes] at e
  | x :: xs, y :: ys, e => by
    simp only [vbes, Bool.and_eq_true] at e
    rw [vbe_eq e.1, vbes_eq e.2]
end
def isRes (r : Res Val) (v : Val) : Bool := match r with
  | .ok w _ => vbe w v
  | _ => false
theorem apart_val {d : Dm} {v : Val} (e : isRes (apart d [] []) v = true) (h : PH) : apart d [] h = .ok v h := by
  have hf : frees [] = true := rfl
  unfold apart at e ⊢
  rw [if_pos hf] at e ⊢
  cases q : d [] [] with
  | ok w h2 =>
    rw [q] at e
    simp only at e ⊢
    cases q2 : dvN 3 h2 w with
    | none => rw [q2] at e; simp [lift, isRes] at e
    | some u => rw [q2] at e; simp only [lift, isRes] at e ⊢; rw [vbe_eq e]
  | exc e1 _ =>
    rw [q] at e
    simp only at e
    split at e <;> simp [isRes] at e
  | stuck => rw [q] at e; simp [isRes] at e
end SW

namespace SW
open PySem

/-! ### a located dict of located lots -/
abbrev DTL := List ((Int × Int) × List Int)
def keyDT (p : (Int × Int) × List Int) : Val := .tup [.int p.1.1, .int p.1.2]
def keysDT (b : DTL) : List Val := b.map keyDT
def lotsDT (b : DTL) : List Val := b.map fun p => encLot p.2
def rfs : Nat → DTL → List Val
  | _, [] => []
  | s, _ :: b => .ref s :: rfs (s + 1) b
def heapDT (b : DTL) : PH := .dct (.non :: keysDT b) (rfs 1 b) :: lotsDT b
def fnd : DTL → Int → Int → Option Nat
  | [], _, _ => none
  | p :: b, i, j => if p.1.1 = i ∧ p.1.2 = j then some 0 else (fnd b i j).map (· + 1)
def addK (l : List Int) (c : Int) : List Int := if c ∈ l then l else l ++ [c]
def upd1 : DTL → Int → Int → Int → DTL
  | [], i, j, c => [((i, j), [c])]
  | p :: b, i, j, c => if p.1.1 = i ∧ p.1.2 = j then (p.1, addK p.2 c) :: b else p :: upd1 b i j c
def okDT (b : DTL) : Bool := decide (b.length < 4000) && decide ((b.map (·.1)).Nodup) && b.all fun p => decide (p.2.length < 4000)
def talR (b : DTL) (i j c : Int) : R DTL := if okDT b = true then .ok (upd1 b i j c) else .st
theorem key_pos {p : (Int × Int) × List Int} {i j : Int} (e : p.1.1 = i ∧ p.1.2 = j) : veq (keyDT p) (.tup [.int i, .int j]) = true := by simp [keyDT, veq, veqs, e]
theorem key_neg {p : (Int × Int) × List Int} {i j : Int} (e : ¬ (p.1.1 = i ∧ p.1.2 = j)) : ¬ veq (keyDT p) (.tup [.int i, .int j]) = true := by simp [keyDT, veq, veqs]; simpa using e
theorem lk_rfs (i j : Int) : ∀ (s : Nat) (b : DTL), lkV (.tup [.int i, .int j]) (keysDT b) (rfs s b) = (fnd b i j).map fun k => .ref (s + k)
  | s, [] => rfl
  | s, p :: b => by
    have ih := lk_rfs i j (s + 1) b
    unfold keysDT at ih ⊢
    simp only [List.map_cons, rfs, lkV, fnd]
    by_cases e : p.1.1 = i ∧ p.1.2 = j
    · rw [if_pos e, if_pos (key_pos e)]; rfl
    · rw [if_neg e, if_neg (key_neg e), ih, Option.map_map]
      congr 1; funext k; simp only [Function.comp]; congr 1; omega
theorem rep_none {v : Val} {i j : Int} : ∀ (s : Nat) (b : DTL), (∀ p ∈ b, ¬ (p.1.1 = i ∧ p.1.2 = j)) → repV (.tup [.int i, .int j]) v (keysDT b) (rfs s b) = rfs s b
  | s, [], _ => rfl
  | s, p :: b, h => by
    have ih := rep_none (v := v) (s + 1) b fun q hq => h q (List.mem_cons_of_mem _ hq)
    unfold keysDT at ih ⊢
    simp only [List.map_cons, rfs, repV]
    rw [if_neg (key_neg (h p (List.mem_cons_self ..))), ih]
theorem rep_some {i j : Int} : ∀ (s : Nat) (b : DTL) {k : Nat}, (b.map (·.1)).Nodup → fnd b i j = some k → repV (.tup [.int i, .int j]) (.ref (s + k)) (keysDT b) (rfs s b) = rfs s b
  | s, [], k, _, e => by simp [fnd] at e
  | s, p :: b, k, hn, e => by
    rw [List.map_cons, List.nodup_cons] at hn
    simp only [fnd] at e
    by_cases q : p.1.1 = i ∧ p.1.2 = j
    · rw [if_pos q] at e; cases e
      have ih := rep_none (v := .ref (s + 0)) (i := i) (j := j) (s + 1) b fun z hz ez => hn.1 (List.mem_map.mpr ⟨z, hz, Prod.ext (ez.1.trans q.1.symm) (ez.2.trans q.2.symm)⟩)
      unfold keysDT at ih ⊢
      simp only [List.map_cons, rfs, repV]
      rw [if_pos (key_pos q), ih]
      rfl
    · rw [if_neg q] at e
      obtain ⟨k', e', rfl⟩ := Option.map_eq_some_iff.mp e
      have ih := rep_some (s + 1) b hn.2 e'
      unfold keysDT at ih ⊢
      simp only [List.map_cons, rfs, repV]
      rw [if_neg (key_neg q), show s + (k' + 1) = s + 1 + k' by omega, ih]
theorem fnd_get {i j : Int} : ∀ (b : DTL) {k : Nat}, fnd b i j = some k → ∃ p, b[k]? = some p
  | [], k, e => by simp [fnd] at e
  | p :: b, k, e => by
    simp only [fnd] at e
    by_cases q : p.1.1 = i ∧ p.1.2 = j
    · rw [if_pos q] at e; cases e; exact ⟨p, rfl⟩
    · rw [if_neg q] at e
      obtain ⟨k', e', rfl⟩ := Option.map_eq_some_iff.mp e
      obtain ⟨p', e2⟩ := fnd_get b e'
      exact ⟨p', by simpa using e2⟩
theorem u_some {i j c : Int} : ∀ (b : DTL) {k : Nat} {p : (Int × Int) × List Int}, fnd b i j = some k → b[k]? = some p → keysDT (upd1 b i j c) = keysDT b ∧ (∀ s, rfs s (upd1 b i j c) = rfs s b) ∧ lotsDT (upd1 b i j c) = (lotsDT b).set k (encLot (addK p.2 c))
  | [], k, p, e, _ => by simp [fnd] at e
  | q :: b, k, p, e, ep => by
    simp only [fnd] at e
    simp only [upd1]
    by_cases z : q.1.1 = i ∧ q.1.2 = j
    · rw [if_pos z] at e ⊢; cases e
      simp at ep; subst ep
      exact ⟨rfl, fun _ => rfl, rfl⟩
    · rw [if_neg z] at e ⊢
      obtain ⟨k', e', rfl⟩ := Option.map_eq_some_iff.mp e
      obtain ⟨h1, h2, h3⟩ := u_some (c := c) b e' (by simpa using ep)
      refine ⟨?_, fun s => ?_, ?_⟩
      · unfold keysDT at h1 ⊢; rw [List.map_cons, List.map_cons, h1]
      · simp only [rfs, h2]
      · unfold lotsDT at h3 ⊢; rw [List.map_cons, List.map_cons, h3]; rfl
theorem u_none {i j c : Int} : ∀ (b : DTL), fnd b i j = none → upd1 b i j c = b ++ [((i, j), [c])]
  | [], _ => rfl
  | p :: b, e => by
    simp only [fnd] at e
    simp only [upd1]
    by_cases z : p.1.1 = i ∧ p.1.2 = j
    · rw [if_pos z] at e; cases e
    · rw [if_neg z] at e ⊢
      rw [u_none b (by simpa using e)]; rfl
theorem rfs_app (q : (Int × Int) × List Int) : ∀ (s : Nat) (b : DTL), rfs s (b ++ [q]) = rfs s b ++ [.ref (s + b.length)]
  | s, [] => rfl
  | s, p :: b => by
    simp only [List.cons_append, rfs, rfs_app q (s + 1) b, List.length_cons]
    rw [show s + 1 + b.length = s + (b.length + 1) by omega]
theorem lk_ints (c : Int) : ∀ l : List Int, (lkV (.int c) (l.map .int) (l.map fun _ => .bl true)).isSome = decide (c ∈ l)
  | [] => rfl
  | x :: l => by
    simp only [List.map_cons, lkV]
    by_cases e : x = c
    · subst e; rw [if_pos (by simp [veq])]; simp
    · rw [if_neg (by simpa [veq] using e), lk_ints c l]
      have : c ≠ x := fun z => e z.symm
      simp [this]
theorem rep_true (c : Int) : ∀ l : List Int, repV (.int c) (.bl true) (l.map .int) (l.map fun _ => .bl true) = l.map fun _ => .bl true
  | [] => rfl
  | x :: l => by
    simp only [List.map_cons, repV, rep_true c l]
    congr 1; split <;> rfl
theorem put_lot (l : List Int) (c : Int) : putV (.int c) (.bl true) (l.map .int) (l.map fun _ => .bl true) = ((addK l c).map .int, (addK l c).map fun _ => .bl true) := by
  unfold putV addK
  rw [lk_ints]
  by_cases e : c ∈ l
  · rw [if_pos (decide_eq_true e), if_pos e, rep_true]
  · rw [if_neg (by simpa using e), if_neg e, List.map_append, List.map_append]; rfl
theorem dks_int (l : List Int) : dKs (l.map .int) = true := by cases l <;> rfl
theorem isKeys2 (i j : Int) : isKeys [.int i, .int j] = some [.inl i, .inl j] := rfl
section
variable {ik il df : Nat} {mc : Ex} {r r2 : Ev} {b : DTL} {i j : Int}
theorem h_len : (heapDT b).length = b.length + 1 := by simp [heapDT, lotsDT]
theorem h_lot {k : Nat} {p : (Int × Int) × List Int} (e : b[k]? = some p) : (heapDT b)[k + 1]? = some (encLot p.2) := by
  simp [heapDT, lotsDT, e]
theorem end_some {c : Int} {k : Nat} (ok : okDT b = true) (e : fnd b i j = some k) : tallyEnd ik 0 (k + 1) [.int i, .int j] (.int c) r2 (heapDT b) = .ok (.nx r2) (heapDT (upd1 b i j c)) := by
  obtain ⟨p, ep⟩ := fnd_get b e
  simp only [okDT, Bool.and_eq_true, decide_eq_true_eq] at ok
  obtain ⟨⟨o1, o2⟩, o3⟩ := ok
  have hp : p.2.length < 4000 := by
    have := List.all_eq_true.mp o3 p (List.mem_of_getElem? ep)
    simpa using this
  obtain ⟨u1, u2, u3⟩ := u_some (c := c) b e ep
  unfold tallyEnd
  rw [h_lot ep]
  have h1 : (dKs (p.2.map Val.int) && decide ((p.2.map Val.int).length < 4000) && (isKey (.int c)).isSome && decide (k + 1 ≠ 0)) = true := by
    rw [dks_int, List.length_map]; simp [hp, isKey]
  simp only [encLot, dctOf]
  rw [if_pos h1]
  simp only [put_lot]
  have h2 : ((heapDT b).set (k + 1) (.dct ((addK p.2 c).map .int) ((addK p.2 c).map fun _ => .bl true)))[0]? = some (.dct (.non :: keysDT b) (rfs 1 b)) := by
    rw [List.getElem?_set_ne (by omega)]; rfl
  rw [h2]
  simp only [dctOf]
  rw [if_pos (by simpa [keysDT] using o1)]
  have h3 : putV (.tup [.int i, .int j]) (.ref (k + 1)) (keysDT b) (rfs 1 b) = (keysDT b, rfs 1 b) := by
    unfold putV
    rw [lk_rfs, e]
    simp only [Option.map_some, Option.isSome_some, if_true]
    rw [show k + 1 = 1 + k by omega, rep_some 1 b o2 e]
  rw [h3]
  congr 1
  unfold heapDT
  rw [u1, u2, u3]
  rfl
theorem end_none {c : Int} (ok : okDT b = true) (e : fnd b i j = none) : tallyEnd ik 0 (b.length + 1) [.int i, .int j] (.int c) r2 (heapDT b ++ [.dct [] []]) = .ok (.nx r2) (heapDT (upd1 b i j c)) := by
  simp only [okDT, Bool.and_eq_true, decide_eq_true_eq] at ok
  obtain ⟨⟨o1, o2⟩, o3⟩ := ok
  unfold tallyEnd
  have h0 : (heapDT b ++ [Val.dct [] []])[b.length + 1]? = some (.dct [] []) := by
    rw [← h_len, List.getElem?_append_right (Nat.le_refl _)]; simp
  rw [h0]
  have h1 : (dKs [] && decide (([] : List Val).length < 4000) && (isKey (.int c)).isSome && decide (b.length + 1 ≠ 0)) = true := by simp [dKs, isKey]
  simp only [dctOf]
  rw [if_pos h1]
  have h2 : ((heapDT b ++ [Val.dct [] []]).set (b.length + 1) (.dct (putV (.int c) (.bl true) [] []).1 (putV (.int c) (.bl true) [] []).2))[0]? = some (.dct (.non :: keysDT b) (rfs 1 b)) := by
    rw [List.getElem?_set_ne (by omega)]; rfl
  rw [h2]
  simp only [dctOf]
  rw [if_pos (by simpa [keysDT] using o1)]
  have h3 : putV (.tup [.int i, .int j]) (.ref (b.length + 1)) (keysDT b) (rfs 1 b) = (keysDT b ++ [.tup [.int i, .int j]], rfs 1 b ++ [.ref (b.length + 1)]) := by
    unfold putV
    rw [lk_rfs, e]
    rfl
  rw [h3, u_none b e]
  congr 1
  have h4 : (heapDT b ++ [Val.dct [] []]).set (b.length + 1) (.dct (putV (.int c) (.bl true) [] []).1 (putV (.int c) (.bl true) [] []).2) = heapDT b ++ [encLot [c]] := by
    rw [← h_len, List.set_append_right _ _ (Nat.le_refl _), Nat.sub_self]; rfl
  rw [h4]
  unfold heapDT
  rw [rfs_app]
  simp only [List.cons_append, List.set_cons_zero, keysDT, lotsDT, List.map_append, List.map_cons, List.map_nil, keyDT]
  rw [show 1 + b.length = b.length + 1 by omega]
theorem tally_eq (hr : r[df]? = some (some (.ref 0))) : tallyA ik il df mc r [.int i, .int j] (heapDT b) = match fnd b i j with
    | some k => (mc ((r.set ik none).set il (some (.ref (k + 1)))) (heapDT b)).bind fun c h2 => tallyEnd ik 0 (k + 1) [.int i, .int j] c ((r.set ik none).set il none) h2
    | none => (mc ((r.set ik none).set il (some (.ref (b.length + 1)))) (heapDT b ++ [.dct [] []])).bind fun c h2 => tallyEnd ik 0 (b.length + 1) [.int i, .int j] c ((r.set ik none).set il none) h2 := by
  unfold tallyA
  rw [hr, isKeys2]
  have h0 : (heapDT b)[0]? = some (.dct (.non :: keysDT b) (rfs 1 b)) := rfl
  simp only [refOf]
  rw [h0]
  simp only [dctOf]
  rw [lk_rfs]
  cases e : fnd b i j with
  | none => simp only [Option.map_none, h_len]
  | some k =>
    obtain ⟨p, ep⟩ := fnd_get b e
    simp only [Option.map_some]
    rw [show 1 + k = k + 1 by omega, h_lot ep]
    simp only [encLot, dctOf, Option.isSome_some, if_true]
end
section
variable {α β : Type} {Q : α → β → PH → Prop} {ik il df : Nat} {mc : Ex} {ms : List Ex} {r : Ev} {b : DTL} {i j : Int} {h : PH} {M : R α} {F : Fl → SM β}
theorem s_tally (hc : (decide (ik < r.length) && decide (il < r.length) && decide (ik ≠ il) && decide (df ≠ ik) && decide (df ≠ il)) = true) (o : Run ((eArgs ms r h).bind fun ks h1 => (tallyA ik il df mc r ks h1).bind F) M Q) : Run ((sTally ik il df ms mc r h).bind F) M Q := by
  unfold sTally
  rw [if_pos hc, bind_assoc]; exact o
theorem p_tally {mm : R Int} {k : DTL → R α} (hr : r[df]? = some (some (.ref 0))) (hm : ∀ l h', Run (mc ((r.set ik none).set il (some (.ref l))) h') mm (Xt encI fun _ => h'))
    (n : ∀ b', Run (F (.nx ((r.set ik none).set il none)) (heapDT b')) (k b') Q) : Run ((tallyA ik il df mc r [encI i, encI j] (heapDT b)).bind F) (mm.bind fun c => (talR b i j c).bind k) Q := by
  show Run ((tallyA ik il df mc r [.int i, .int j] (heapDT b)).bind F) _ Q
  rw [tally_eq hr]
  cases mm with
  | st => trivial
  | ex e =>
    cases q : fnd b i j with
    | some l => obtain ⟨h1, h2, h3⟩ := hm (l + 1) (heapDT b); exact ⟨h1, h2, by simp only [h3]; rfl⟩
    | none => obtain ⟨h1, h2, h3⟩ := hm (b.length + 1) (heapDT b ++ [.dct [] []]); exact ⟨h1, h2, by simp only [h3]; rfl⟩
  | ok c =>
    simp only [R.bind_ok]
    unfold talR
    by_cases ok : okDT b = true
    · rw [if_pos ok, R.bind_ok]
      cases q : fnd b i j with
      | some l =>
        obtain ⟨v, h', h1, h2, h3⟩ := hm (l + 1) (heapDT b)
        simp only [h1]
        subst h2 h3
        show Run ((tallyEnd ik 0 (l + 1) [.int i, .int j] (.int c) _ (heapDT b)).bind F) _ Q
        rw [end_some ok q]; exact n _
      | none =>
        obtain ⟨v, h', h1, h2, h3⟩ := hm (b.length + 1) (heapDT b ++ [.dct [] []])
        simp only [h1]
        subst h2 h3
        show Run ((tallyEnd ik 0 (b.length + 1) [.int i, .int j] (.int c) _ (heapDT b ++ [.dct [] []])).bind F) _ Q
        rw [end_none ok q]; exact n _
    · rw [if_neg ok]; trivial
end
end SW
namespace SW
open PySem
theorem dvs0_tr (f : Nat → Option Val) : ∀ l : List Int, dvs0 f (l.map fun _ => .bl true) = some (l.map fun _ => .bl true)
  | [] => rfl
  | _ :: l => by simp only [List.map_cons, dvs0, dv0, dvs0_tr f l]
theorem dvs0_rfs {h : PH} : ∀ (s : Nat) (b : DTL), (∀ (k : Nat) p, b[k]? = some p → h[s + k]? = some (encLot p.2)) → dvs0 (dvF 2 h) (rfs s b) = some (lotsDT b)
  | s, [], _ => rfl
  | s, p :: b, hh => by
    have ih := dvs0_rfs (h := h) (s + 1) b fun k q e => by
      have := hh (k + 1) q (by simpa using e)
      rwa [show s + (k + 1) = s + 1 + k by omega] at this
    have h0 := hh 0 p rfl
    simp only [rfs, dvs0, dv0, ih]
    have : dvF 2 h s = some (encLot p.2) := by
      rw [Nat.add_zero] at h0
      simp only [dvF, h0, encLot, dvs0_tr, Option.map_some]
    rw [this]; rfl
theorem dv_dt (b : DTL) : dvN 3 (heapDT b) (.ref 0) = some (encDT b) := by
  unfold dvN
  simp only [dv0]
  show dvF 3 (heapDT b) 0 = _
  have h0 : (heapDT b)[0]? = some (.dct (.non :: keysDT b) (rfs 1 b)) := rfl
  unfold dvF
  rw [h0]
  simp only []
  rw [dvs0_rfs 1 b fun k p e => by rw [Nat.add_comm]; exact h_lot e]
  rfl
theorem apDT_of {d : Dm} {vs : List Val} {h : PH} {m : R DTL} (o : Run (d vs []) m fun z v h' => v = .ref 0 ∧ h' = heapDT z) (hf : frees vs = true) : Run (apart d vs h) m (Xt encDT fun _ => h) := by
  unfold apart
  rw [if_pos hf]
  cases m with
  | st => trivial
  | ex e =>
    obtain ⟨h1, h2, h3⟩ := o
    rw [h3]
    simp only [h1, if_true]
    exact ⟨h1, _, rfl⟩
  | ok z =>
    obtain ⟨v, h', h1, h2, h3⟩ := o
    subst h2 h3
    rw [h1]
    simp only [dv_dt]
    exact ⟨_, _, rfl, rfl, rfl⟩
end SW

namespace SW
open PySem
/-- the first place -/
def ixF {α : Type} [DecidableEq α] (a : α) : List α → Option Nat
  | [] => none
  | x :: xs => if x = a then some 0 else (ixF a xs).map (· + 1)
def indexR {α : Type} [DecidableEq α] (xs : List α) (a : α) : R Int := match ixF a xs with
  | some j => .ok j
  | none => .st
section
variable {α : Type} [DecidableEq α] {c : α → Val} {n : Nat} {xs : List α} {a : α} {h : PH}
theorem idxB_enc (ok : EncOK c n) : ∀ xs : List α, idxB (fun z => veq z (c a)) (xs.map c) = ixF a xs
  | [] => rfl
  | x :: xs => by
    simp only [List.map_cons, idxB, ixF, ok.eq, idxB_enc ok xs]
    by_cases e : x = a
    · rw [if_pos (decide_eq_true e), if_pos e]
    · rw [if_neg (by simp [e]), if_neg e]
theorem v_index (ok : EncOK c n) (hn : n ≤ 59) : OpV (gIndexC (xs.map c) h (c a)) (indexR xs a) encI := by
  have e : gIndexC (xs.map c) h (c a) = (ixF a xs).map fun (j : Nat) => Val.int (j : Int) := by
    unfold gIndexC
    rw [ok.vw, dat_up (ok.dt a) (show n ≤ 60 by omega), dats_map (fun a => dat_up (ok.dt a) (show n ≤ 60 by omega)), idxB_enc ok]
    cases ixF a xs <;> rfl
  rw [e]
  unfold indexR
  cases ixF a xs with
  | none => trivial
  | some j => exact rfl
end
section
variable {α β : Type} {Q : α → β → PH → Prop} {h : PH} {r : Ev} {M : R α} {f : Val → SM β} {a b : Ex}
theorem c_idxT {vs : List Val} (ha : a r h = .ok (.tup vs) h) (o : Run ((b r h).bind fun y h2 => (lift (gIndexC vs h2 y) h2).bind f) M Q) : Run ((eIdxT a b r h).bind f) M Q := by
  unfold eIdxT; simp only [bind_assoc, ha, x_bok]; exact o
def idxL2 (x y : Val) (h2 : PH) : Res Val := match view h2 x with
  | .lst vs => lift (gIndexC vs h2 y) h2
  | _ => .stuck
def idxL1 (x : Val) (b : Ex) (r : Ev) (h1 : PH) : Res Val := match view h1 x with
  | .lst _ => (b r h1).bind fun y h2 => idxL2 x y h2
  | _ => .stuck
theorem c_idxL (o : Run ((a r h).bind fun x h1 => (idxL1 x b r h1).bind f) M Q) : Run ((eIdxL a b r h).bind f) M Q := by
  unfold eIdxL; simp only [bind_assoc]; exact o
theorem c_idxL3 {x : Val} {vs : List Val} (hx : view h x = .lst vs) (o : Run ((b r h).bind fun y h2 => (idxL2 x y h2).bind f) M Q) : Run ((idxL1 x b r h).bind f) M Q := by
  unfold idxL1; simp only [hx, bind_assoc]; exact o
theorem c_idxL2 {x y : Val} {vs : List Val} (hx : view h x = .lst vs) (o : Run ((lift (gIndexC vs h y) h).bind f) M Q) : Run ((idxL2 x y h).bind f) M Q := by
  unfold idxL2; rw [hx]; exact o
end
end SW

namespace SW
open PySem
/-! ### what many laws need -/
theorem fac_modA {x : Int} {n : Int} (h : 0 < n) (h1 : n ≤ 2147483647) : fac (x % n) = true := fac_small (by have := Int.emod_nonneg x (show n ≠ 0 by omega); omega) (by have := Int.emod_lt_of_pos x h; omega)
theorem nodup_rng (j : Int) : (rng j).Nodup := (rng_pairwise j).imp fun h e => by omega
theorem rng_mem {j x : Int} : x ∈ rng j ↔ 0 ≤ x ∧ x < j := by
  simp only [rng, List.mem_map, List.mem_range]
  constructor
  · rintro ⟨a, h, rfl⟩
    exact ⟨Int.natCast_nonneg a, by show ((a : Nat) : Int) < j; omega⟩
  · rintro ⟨h0, h1⟩
    exact ⟨x.toNat, by omega, by show ((x.toNat : Nat) : Int) = x; omega⟩
theorem sorted_sub {m : Int} {lot : List Int} (hn : lot.Nodup) (hr : ∀ x ∈ lot, x ∈ rng m) : sortE encI lot ∈ subs (rng m) := by
  have hp := sortE_perm encI lot
  exact mem_subs (sub_asc (asc_of (sortE_sorted lot) (hp.nodup_iff.mpr hn)) (rng_pairwise m) fun y hy => hr y (hp.mem_iff.mp hy))
section
variable {α β S : Type}
theorem nodup_at {xs : List α} (hn : xs.Nodup) {i j : Nat} {hi : i < xs.length} {hj : j < xs.length} (e : xs[i] = xs[j]) : i = j := by
  have := List.pairwise_iff_getElem.mp hn
  rcases Nat.lt_trichotomy i j with q | q | q
  · exact absurd e (this i j hi hj q)
  · exact q
  · exact absurd e.symm (this j i hj hi q)
theorem ok_foldPN {f : S → α → R S} {I : List α → S → Prop} (N : Nat) : ∀ {xs pre : List α} {s : S}, pre.length + xs.length = N → I pre s → (∀ pre s x, x ∈ xs → pre.length < N → I pre s → Ok (f s x) (I (pre ++ [x]))) → Ok (foldR xs s f) (I (pre ++ xs))
  | [], pre, s, _, h, _ => by rw [List.append_nil]; exact ⟨s, rfl, h⟩
  | x :: xs, pre, s, hn, h, k => by
    rw [List.length_cons] at hn
    obtain ⟨s2, e, h2⟩ := k pre s x (List.mem_cons_self ..) (by omega) h
    have := ok_foldPN N (xs := xs) (pre := pre ++ [x]) (by rw [List.length_append]; simp; omega) h2 fun p s y hy => k p s y (List.mem_cons_of_mem _ hy)
    rw [List.append_assoc] at this
    obtain ⟨s3, e3, h3⟩ := this
    exact ⟨s3, by rw [foldR, e]; exact e3, h3⟩
/-- a loop by what it has gone through -/
theorem ok_foldPre {f : S → α → R S} {I : List α → S → Prop} {xs : List α} {s : S} (h : I [] s) (k : ∀ pre s x, x ∈ xs → pre.length < xs.length → I pre s → Ok (f s x) (I (pre ++ [x]))) : Ok (foldR xs s f) (I xs) := ok_foldPN xs.length (pre := []) (by simp) h k
theorem nodup_len [DecidableEq α] : ∀ {xs ys : List α}, xs.Nodup → (∀ x ∈ xs, x ∈ ys) → xs.length ≤ ys.length
  | [], _, _, _ => Nat.zero_le _
  | x :: xs, ys, hn, h => by
    rw [List.nodup_cons] at hn
    have hx := h x (List.mem_cons_self ..)
    have := nodup_len (xs := xs) (ys := ys.erase x) hn.2 fun y hy => (List.mem_erase_of_ne (fun (e : y = x) => hn.1 (e ▸ hy))).mpr (h y (List.mem_cons_of_mem _ hy))
    rw [List.length_erase_of_mem hx] at this
    have := List.length_pos_of_mem hx
    simp only [List.length_cons]; omega
/-- a loop that puts some behind -/
theorem foldR_filt {f : List β → α → R (List β)} {p : α → Bool} {g : α → β} : ∀ {xs : List α} {s : List β}, s.length + xs.length ≤ 1000000 → (∀ s x, x ∈ xs → s.length < 1000000 → f s x = .ok (if p x = true then s ++ [g x] else s)) → foldR xs s f = .ok (s ++ (xs.filter p).map g)
  | [], s, _, _ => by simp [foldR]
  | x :: xs, s, hl, h => by
    simp only [List.length_cons] at hl
    simp only [foldR, h s x (List.mem_cons_self ..) (by omega), R.bind_ok]
    by_cases q : p x = true
    · rw [if_pos q, foldR_filt (by simp only [List.length_append, List.length_singleton]; omega) fun s y hy => h s y (List.mem_cons_of_mem _ hy), List.filter_cons_of_pos q]
      simp
    · rw [if_neg q, foldR_filt (by omega) fun s y hy => h s y (List.mem_cons_of_mem _ hy), List.filter_cons_of_neg q]
/-- a loop that puts lists behind -/
theorem foldR_flat {f : List β → α → R (List β)} {g : α → List β} (c : Nat) : ∀ {xs : List α} {s : List β}, s.length + xs.length * c ≤ 1000000 → (∀ x ∈ xs, (g x).length ≤ c) → (∀ s x, x ∈ xs → s.length + c ≤ 1000000 → f s x = .ok (s ++ g x)) → foldR xs s f = .ok (s ++ xs.flatMap g)
  | [], s, _, _, _ => by simp [foldR]
  | x :: xs, s, hl, hc, h => by
    simp only [List.length_cons, Nat.succ_mul] at hl
    have hx := hc x (List.mem_cons_self ..)
    simp only [foldR, h s x (List.mem_cons_self ..) (by omega), R.bind_ok]
    rw [foldR_flat c (by simp only [List.length_append]; omega) (fun y hy => hc y (List.mem_cons_of_mem _ hy)) fun s y hy => h s y (List.mem_cons_of_mem _ hy), List.flatMap_cons, List.append_assoc]
theorem flatMap_some {g : α → List β} {q : α → Bool} : ∀ {l : List α}, (∀ x ∈ l, q x = false → g x = []) → (l.filter q).flatMap g = l.flatMap g
  | [], _ => rfl
  | x :: l, h => by
    have ih := flatMap_some (g := g) (q := q) (l := l) fun y hy => h y (List.mem_cons_of_mem _ hy)
    by_cases e : q x = true
    · rw [List.filter_cons_of_pos e, List.flatMap_cons, List.flatMap_cons, ih]
    · rw [List.filter_cons_of_neg e, List.flatMap_cons, h x (List.mem_cons_self ..) (by simpa using e), List.nil_append, ih]
theorem mapR_const {f : α → R β} {G : α → β} {xs : List α} (h : ∀ x ∈ xs, f x = .ok (G x)) : mapR xs f = .ok (xs.map G) := mapR_ok h
end
/-! ### orders put together step by step -/
def extO (m : Int) (o : List Int) : List (List Int) := ((rng m).filter fun c => !decide (c ∈ o)).map fun c => o ++ [c]
def pkO (m : Int) : Nat → List (List Int)
  | 0 => [[]]
  | k + 1 => (pkO m k).flatMap (extO m)
theorem extO_len (m : Int) (o : List Int) : (extO m o).length ≤ m.toNat := by
  unfold extO
  rw [List.length_map]
  exact Nat.le_trans (List.length_filter_le _ _) (by rw [length_rng]; exact Nat.le_refl _)
theorem pkO_len {m : Int} : ∀ {k : Nat} {o : List Int}, o ∈ pkO m k → o.length = k
  | 0, o, h => by simp [pkO] at h; subst h; rfl
  | k + 1, o, h => by
    simp only [pkO, List.mem_flatMap, extO, List.mem_map] at h
    obtain ⟨p, hp, c, _, rfl⟩ := h
    rw [List.length_append, pkO_len hp]; rfl
/-- by tests that only what was let can go on with, level by level -/
theorem level {m : Int} {p : List Int → Bool} {k : Nat} (h : ∀ o ∈ pkO m k, p o = false → ∀ o2 ∈ extO m o, p o2 = false) : ((pkO m k).filter p).flatMap (fun o => (extO m o).filter p) = (pkO m (k + 1)).filter p := by
  rw [flatMap_some fun o ho hq => List.filter_eq_nil_iff.mpr fun o2 h2 => by rw [h o ho hq o2 h2]; exact Bool.false_ne_true]
  show _ = ((pkO m k).flatMap (extO m)).filter p
  rw [List.filter_flatMap]
theorem ix_at {α : Type} [DecidableEq α] : ∀ {xs : List α} {k : Nat} (h : k < xs.length), xs.Nodup → ixF xs[k] xs = some k
  | x :: xs, 0, _, _ => by simp [ixF]
  | x :: xs, k + 1, h, hn => by
    rw [List.nodup_cons] at hn
    have hk : k < xs.length := by simpa using h
    simp only [List.getElem_cons_succ, ixF]
    rw [if_neg fun e => hn.1 (by rw [e]; exact List.getElem_mem hk), ix_at hk hn.2]; rfl
end SW

namespace SW
open PySem
/-! ### the order of lots -/
def lexI : List Int → List Int → Bool
  | [], [] => false
  | [], _ :: _ => true
  | _ :: _, [] => false
  | x :: xs, y :: ys => if x = y then lexI xs ys else decide (x < y)
theorem lte_lex : ∀ (a b : List Int), lte (encT encI) a b = lexI a b
  | [], [] => rfl
  | [], _ :: _ => rfl
  | _ :: _, [] => rfl
  | x :: xs, y :: ys => by
    have ih := lte_lex xs ys
    simp only [lte, encT, List.map_cons, vlt, vlts, lexI] at ih ⊢
    by_cases e : x = y
    · subst e
      have : veq (encI x) (encI x) = true := by simp [encI, veq]
      rw [if_pos this, if_pos rfl]; exact ih
    · have : veq (encI x) (encI y) = false := by simp [encI, veq, e]
      rw [this, if_neg Bool.false_ne_true, if_neg e]
theorem lex_self : ∀ a : List Int, lexI a a = false
  | [] => rfl
  | x :: xs => by simp only [lexI, if_true]; exact lex_self xs
theorem lex_anti : ∀ {a b : List Int}, lexI a b = false → lexI b a = false → a = b
  | [], [], _, _ => rfl
  | [], _ :: _, h, _ => by cases h
  | _ :: _, [], _, h => by cases h
  | x :: xs, y :: ys, h1, h2 => by
    simp only [lexI] at h1 h2
    by_cases e : x = y
    · subst e
      rw [if_pos rfl] at h1 h2
      rw [lex_anti h1 h2]
    · rw [if_neg e] at h1
      rw [if_neg fun z => e z.symm] at h2
      simp only [decide_eq_false_iff_not] at h1 h2
      omega
theorem lex_tr : ∀ {a b c : List Int}, lexI b a = false → lexI c b = false → lexI c a = false
  | [], b, c, h1, h2 => by cases c <;> rfl
  | x :: xs, [], _, h1, _ => by cases h1
  | x :: xs, y :: ys, [], _, h2 => by cases h2
  | x :: xs, y :: ys, z :: zs, h1, h2 => by
    simp only [lexI] at h1 h2 ⊢
    by_cases e1 : y = x
    · subst e1
      rw [if_pos rfl] at h1
      by_cases e2 : z = y
      · subst e2
        rw [if_pos rfl] at h2 ⊢
        exact lex_tr h1 h2
      · rw [if_neg e2] at h2 ⊢; exact h2
    · rw [if_neg e1] at h1
      simp only [decide_eq_false_iff_not] at h1
      by_cases e2 : z = y
      · subst e2
        rw [if_neg e1]; simpa using h1
      · rw [if_neg e2] at h2
        simp only [decide_eq_false_iff_not] at h2
        rw [if_neg (by omega)]
        simp only [decide_eq_false_iff_not]; omega
theorem lex_tot (a b : List Int) : lexI a b = false ∨ lexI b a = false := by
  induction a generalizing b with
  | nil => exact .inr (by cases b <;> rfl)
  | cons x xs ih =>
    cases b with
    | nil => exact .inl rfl
    | cons y ys =>
      simp only [lexI]
      by_cases e : x = y
      · subst e; simp only [if_true]; exact ih ys
      · rw [if_neg e, if_neg fun z => e z.symm]
        simp only [decide_eq_false_iff_not]; omega
theorem sortT_sorted (xs : List (List Int)) : List.Pairwise (fun a b => lexI b a = false) (sortE (encT encI) xs) := by
  unfold sortE
  have := List.pairwise_mergeSort (le := fun a b : List Int => !lte (encT encI) b a) (fun a b c h1 h2 => by
    simp only [lte_lex, Bool.not_eq_true'] at *
    exact lex_tr h1 h2) (fun a b => by
    simp only [lte_lex, Bool.or_eq_true, Bool.not_eq_true']
    exact (lex_tot b a)) xs
  exact this.imp fun h => by simpa [lte_lex] using h
theorem min_fold : ∀ (ys : List (List Int)) (x : List Int), (ys.foldl (fun a y => if lte (encT encI) y a = true then y else a) x) ∈ x :: ys ∧ ∀ z ∈ x :: ys, lexI z (ys.foldl (fun a y => if lte (encT encI) y a = true then y else a) x) = false
  | [], x => ⟨List.mem_cons_self .., fun z hz => by simp only [List.mem_singleton] at hz; subst hz; exact lex_self z⟩
  | y :: ys, x => by
    rw [List.foldl_cons]
    by_cases q : lte (encT encI) y x = true
    · rw [if_pos q]
      obtain ⟨h1, h2⟩ := min_fold ys y
      refine ⟨List.mem_cons_of_mem _ h1, fun z hz => ?_⟩
      rcases List.mem_cons.mp hz with rfl | w
      · rw [lte_lex] at q
        have a1 := h2 y (List.mem_cons_self ..)
        refine lex_tr a1 ?_
        rcases lex_tot z y with w | w
        · exact w
        · rw [w] at q; cases q
      · exact h2 z w
    · rw [if_neg q]
      obtain ⟨h1, h2⟩ := min_fold ys x
      have q' : lexI y x = false := by rw [← lte_lex]; simpa using q
      refine ⟨?_, fun z hz => ?_⟩
      · rcases List.mem_cons.mp h1 with w | w
        · rw [w]; exact List.mem_cons_self ..
        · exact List.mem_cons_of_mem _ (List.mem_cons_of_mem _ w)
      · rcases List.mem_cons.mp hz with rfl | w
        · exact h2 z (List.mem_cons_self ..)
        · rcases List.mem_cons.mp w with rfl | w
          · exact lex_tr (h2 x (List.mem_cons_self ..)) q'
          · exact h2 z (List.mem_cons_of_mem _ w)
theorem minT_ok {xs : List (List Int)} (h : xs ≠ []) : ∃ m, minR (encT encI) xs = .ok m ∧ m ∈ xs ∧ ∀ z ∈ xs, lexI z m = false := by
  cases xs with
  | nil => exact absurd rfl h
  | cons x ys => exact ⟨_, rfl, min_fold ys x⟩
theorem max_fold : ∀ (ys : List Int) (x : Int), (ys.foldl (fun a y => if lte encI a y = true then y else a) x) ∈ x :: ys ∧ ∀ z ∈ x :: ys, z ≤ (ys.foldl (fun a y => if lte encI a y = true then y else a) x)
  | [], x => ⟨List.mem_cons_self .., fun z hz => by simp only [List.mem_singleton] at hz; subst hz; exact Int.le_refl _⟩
  | y :: ys, x => by
    rw [List.foldl_cons]
    simp only [lte_i, decide_eq_true_eq]
    have F := max_fold ys
    simp only [lte_i, decide_eq_true_eq] at F
    by_cases q : x < y
    · rw [if_pos q]
      obtain ⟨h1, h2⟩ := F y
      refine ⟨List.mem_cons_of_mem _ h1, fun z hz => ?_⟩
      rcases List.mem_cons.mp hz with rfl | w
      · have := h2 y (List.mem_cons_self ..); omega
      · exact h2 z w
    · rw [if_neg q]
      obtain ⟨h1, h2⟩ := F x
      refine ⟨?_, fun z hz => ?_⟩
      · rcases List.mem_cons.mp h1 with w | w
        · rw [w]; exact List.mem_cons_self ..
        · exact List.mem_cons_of_mem _ (List.mem_cons_of_mem _ w)
      · rcases List.mem_cons.mp hz with rfl | w
        · exact h2 z (List.mem_cons_self ..)
        · rcases List.mem_cons.mp w with rfl | w
          · have := h2 x (List.mem_cons_self ..); omega
          · exact h2 z (List.mem_cons_of_mem _ w)
theorem maxI_ok {xs : List Int} (h : xs ≠ []) : ∃ m, maxR encI xs = .ok m ∧ m ∈ xs ∧ ∀ z ∈ xs, z ≤ m := by
  cases xs with
  | nil => exact absurd rfl h
  | cons x ys => exact ⟨_, rfl, max_fold ys x⟩
theorem subs_sub {α : Type} : ∀ {xs ys : List α}, ys ∈ subs xs → List.Sublist ys xs
  | [], ys, h => by simp only [subs, List.mem_singleton] at h; subst h; exact List.Sublist.refl _
  | x :: xs, ys, h => by
    simp only [subs, List.mem_append, List.mem_map] at h
    rcases h with h | ⟨zs, h, rfl⟩
    · exact (subs_sub h).cons x
    · exact (subs_sub h).cons₂ x
theorem sortT_uniq {xs ys : List (List Int)} (hp : List.Perm ys xs) (hs : List.Pairwise (fun a b => lexI b a = false) ys) : ys = sortE (encT encI) xs :=
  List.Perm.eq_of_pairwise (le := fun a b => lexI b a = false) (fun a b _ _ h1 h2 => lex_anti h2 h1) hs (sortT_sorted xs) (hp.trans (sortE_perm _ _).symm)
end SW

namespace SW
open PySem
/-! ### dicts with ints for keys -/
abbrev encD {α : Type} (c : α → Val) (b : List (Int × α)) : Val := .dct (b.map fun p => encI p.1) (b.map fun p => c p.2)
def lkN {α : Type} (k : Int) : List (Int × α) → Option α
  | [] => none
  | p :: b => if p.1 = k then some p.2 else lkN k b
def hasN {α : Type} (b : List (Int × α)) (k : Int) : Bool := (lkN k b).isSome
def getN {α : Type} (b : List (Int × α)) (k : Int) : R α := match lkN k b with
  | some v => .ok v
  | none => .st
def putN {α : Type} (b : List (Int × α)) (k : Int) (v : α) : List (Int × α) := if hasN b k = true then b.map fun p => if p.1 = k then (p.1, v) else p else b ++ [(k, v)]
def putNR {α : Type} (b : List (Int × α)) (k : Int) (v : α) : R (List (Int × α)) := if b.length < 1000000 then .ok (putN b k v) else .st
def updN {α : Type} (b c : List (Int × α)) : List (Int × α) := c.foldl (fun b p => putN b p.1 p.2) b
def updNR {α : Type} (b c : List (Int × α)) : R (List (Int × α)) := if b.length < 400000 ∧ c.length < 400000 then .ok (updN b c) else .st
def dctNR {α : Type} (ps : List (Int × α)) : R (List (Int × α)) := if ps.length < 1000000 then .ok (updN [] ps) else .st
section
variable {α : Type} {c : α → Val} {h : PH} {b : List (Int × α)} {k : Int} {v : α}
theorem lk_enc (c : α → Val) (k : Int) : ∀ b : List (Int × α), lkV (.int k) (b.map fun p => encI p.1) (b.map fun p => c p.2) = (lkN k b).map c
  | [] => rfl
  | p :: b => by
    simp only [List.map_cons, lkV, lkN]
    rw [show veq (encI p.1) (Val.int k) = decide (p.1 = k) from enc_int.eq _ _]
    by_cases e : p.1 = k
    · rw [if_pos (decide_eq_true e), if_pos e]; rfl
    · rw [if_neg (by simp [e]), if_neg e]; exact lk_enc c k b
theorem dKs_enc : dKs (b.map fun p => encI p.1) = true := by cases b <;> rfl
theorem rep_enc (c : α → Val) (k : Int) (v : α) : ∀ b : List (Int × α), repV (.int k) (c v) (b.map fun p => encI p.1) (b.map fun p => c p.2) = (b.map fun p => if p.1 = k then (p.1, v) else p).map fun p => c p.2
  | [] => rfl
  | p :: b => by
    simp only [List.map_cons, repV]
    rw [rep_enc c k v b, show veq (encI p.1) (Val.int k) = decide (p.1 = k) from enc_int.eq _ _]
    by_cases e : p.1 = k
    · rw [if_pos (decide_eq_true e), if_pos e]
    · rw [if_neg (by simp [e]), if_neg e]
theorem keys_rep2 (k : Int) (v : α) : ∀ b : List (Int × α), (b.map fun p => if p.1 = k then (p.1, v) else p).map (fun p => encI p.1) = b.map fun p => encI p.1
  | [] => rfl
  | p :: b => by
    simp only [List.map_cons, keys_rep2 k v b]
    by_cases e : p.1 = k
    · rw [if_pos e]
    · rw [if_neg e]
theorem put_enc (c : α → Val) (b : List (Int × α)) (k : Int) (v : α) : putV (.int k) (c v) (b.map fun p => encI p.1) (b.map fun p => c p.2) = ((putN b k v).map (fun p => encI p.1), (putN b k v).map fun p => c p.2) := by
  unfold putV putN hasN
  rw [lk_enc]
  cases e : lkN k b with
  | none => simp
  | some w =>
    simp only [Option.map_some, Option.isSome_some, if_true]
    rw [rep_enc, keys_rep2]
theorem o_din {neg : Bool} {x : Val} (hx : view h x = encD c b) : gDIn neg h (encI k) x = some (.bl (hasN b k != neg)) := by
  unfold gDIn
  rw [hx]
  show (if dKs (b.map fun p => encI p.1) = true then _ else _) = _
  rw [if_pos dKs_enc]
  show some (Val.bl ((lkV (.int k) (b.map fun p => encI p.1) (b.map fun p => c p.2)).isSome != neg)) = _
  rw [lk_enc]
  unfold hasN
  cases lkN k b <;> rfl
theorem v_dget {x : Val} (hx : view h x = encD c b) : OpV (gDGet h x (encI k)) (getN b k) c := by
  have e : gDGet h x (encI k) = (lkN k b).map c := by
    unfold gDGet
    rw [hx]
    show (if dKs (b.map fun p => encI p.1) = true then _ else _) = _
    rw [if_pos dKs_enc]
    exact lk_enc c k b
  rw [e]
  unfold getN
  cases lkN k b with
  | none => trivial
  | some v => exact rfl
theorem o_lenD {x : Val} (hx : view h x = encD c b) : gLenD h [x] = some (.int ((b.length : Nat) : Int)) := by
  unfold gLenD
  simp only [hx]
  rw [if_pos dKs_enc, List.length_map]
theorem v_sortDN {x : Val} (hx : view h x = encD c b) : OpV (gSortedD h [x]) (sortDR (b.map (·.1))) fun ys => ys.map encI := by
  have e : gSortedD h [x] = if b.length < 64 then some (((b.map (·.1)).mergeSort fun a b => decide (a ≤ b)).map Val.int) else none := by
    unfold gSortedD
    simp only [hx]
    have e1 : (b.map fun p => encI p.1) = (b.map (·.1)).map Val.int := by rw [List.map_map]; rfl
    rw [List.length_map, e1, allInts_map]
    by_cases q : b.length < 64
    · rw [if_pos (by simpa using q), if_pos q]; rfl
    · rw [if_neg (by simpa using q), if_neg q]
  rw [e]
  unfold sortDR
  rw [List.length_map]
  by_cases q : b.length < 64
  · rw [if_pos q, if_pos q]; exact rfl
  · rw [if_neg q, if_neg q]; trivial
theorem free_D (hc : ∀ a, free (c a) = true) (b : List (Int × α)) : free (encD c b) = true := by
  unfold encD free
  induction b with
  | nil => rfl
  | cons p b ih => simp only [List.map_cons, frees, hc, Bool.true_and]; exact ih
theorem view_encD : view h (encD c b) = encD c b := rfl
theorem view_refD {l : Nat} (e : h[l]? = some (encD c b)) : view h (.ref l) = encD c b := by simp only [view, e]
end
/-! {k: v for ..} -/
def eKVx (ek ev : Ex) : Ex := fun r h => (ek r h).bind fun k h1 => (ev r h1).bind fun v h2 => if (isKey k).isSome then .ok (.ins 1 [k, v]) h2 else .stuck
theorem eKV_eq (ek ev : Ex) : eKV ek ev = eOne (eKVx ek ev) := by
  funext r h
  unfold eKV eOne eKVx
  simp only [bind_assoc]
  congr 1; funext k h1; congr 1; funext v h2
  split <;> rfl
def dcFin (ps : List Val) : Option Val := if ps.length < 1000000 then some (.dct (putAll ps).1 (putAll ps).2) else none
section
variable {α β : Type} {Q : α → β → PH → Prop} {h : PH} {r : Ev} {M : R α} {f : Val → SM β} {a b : Ex} {ms : Ev → SM Src} {g : TGm} {mt : Option Ex} {own : List Nat}
theorem c_dc (o : Run ((eComp ms g mt (eKVx a b) own r h).bind fun ps h2 => (lift (dcFin ps) h2).bind f) M Q) : Run ((eDC ms g mt a b own r h).bind f) M Q := by
  refine c_eq ?_ o
  unfold eDC eComp
  rw [eKV_eq]
  simp only [bind_assoc]
  congr 1; funext src h1; congr 1; funext ps h2
  unfold dcFin
  split <;> rfl
theorem q_kv {i : Int} {v : Val} (ha : a r h = .ok (encI i) h) (hb : b r h = .ok v h) : eKVx a b r h = .ok (.ins 1 [encI i, v]) h := by
  unfold eKVx; simp only [ha, hb, x_bok]; rfl
def kvF (k v : Val) (h2 : PH) : Res Val := if (isKey k).isSome then .ok (.ins 1 [k, v]) h2 else .stuck
theorem c_kv (o : Run ((a r h).bind fun k h1 => (b r h1).bind fun v h2 => (kvF k v h2).bind f) M Q) : Run ((eKVx a b r h).bind f) M Q := by
  unfold eKVx; simp only [bind_assoc]; exact o
theorem c_kv2 {i : Int} {v : Val} (o : Run (f (.ins 1 [encI i, v]) h) M Q) : Run ((kvF (encI i) v h).bind f) M Q := o
end
theorem putAll_enc {α : Type} (c : α → Val) : ∀ (ps b : List (Int × α)), (ps.map (encE encI c)).foldl putP (b.map (fun p => encI p.1), b.map fun p => c p.2) = ((updN b ps).map (fun p => encI p.1), (updN b ps).map fun p => c p.2)
  | [], b => rfl
  | p :: ps, b => by
    simp only [List.map_cons, List.foldl_cons]
    show (ps.map (encE encI c)).foldl putP (putV (encI p.1) (c p.2) _ _) = _
    rw [show encI p.1 = Val.int p.1 from rfl, put_enc]
    exact putAll_enc c ps (putN b p.1 p.2)
theorem v_dc {α : Type} {c : α → Val} {ps : List (Int × α)} : OpV (dcFin (ps.map (encE encI c))) (dctNR ps) (encD c) := by
  unfold dctNR dcFin
  rw [List.length_map]
  by_cases q : ps.length < 1000000
  · rw [if_pos q, if_pos q]
    show _ = some _
    have := putAll_enc c ps []
    unfold putAll
    rw [show (([], []) : List Val × List Val) = (([] : List (Int × α)).map (fun p => encI p.1), ([] : List (Int × α)).map fun p => c p.2) from rfl, this]
  · rw [if_neg q, if_neg q]; trivial
/-! d[k] = v, d.update(..) -/
theorem putL_enc {α : Type} (c : α → Val) : ∀ (ps b : List (Int × α)), putL (ps.map fun p => encI p.1) (ps.map fun p => c p.2) (b.map (fun p => encI p.1), b.map fun p => c p.2) = ((updN b ps).map (fun p => encI p.1), (updN b ps).map fun p => c p.2)
  | [], b => rfl
  | p :: ps, b => by
    simp only [List.map_cons, putL]
    rw [show encI p.1 = Val.int p.1 from rfl, put_enc]
    exact putL_enc c ps (putN b p.1 p.2)
section
variable {α β γ : Type} {Q : α → β → PH → Prop} {h : PH} {r : Ev} {M : R α} {f : Val → SM β} {F : Fl → SM β} {a b e : Ex} {l : Nat}
def dputF (x y v : Val) (r : Ev) (h : PH) : Res Fl := match gDPut h x y v with
  | some h4 => .ok (.nx r) h4
  | none => .stuck
theorem f_dput (o : Run ((e r h).bind fun v h1 => (a r h1).bind fun x h2 => (b r h2).bind fun y h3 => (dputF x y v r h3).bind F) M Q) : Run ((sDPut' a b e r h).bind F) M Q := by
  unfold sDPut'; simp only [bind_assoc]; exact o
theorem f_dput2 {c : γ → Val} {d : List (Int × γ)} {k : Int} {v : γ} {h' : List (Int × γ) → PH} {m : List (Int × γ) → R α} (hx : h[l]? = some (encD c d)) (hh : ∀ z, h.set l (encD c z) = h' z) (o : ∀ z, Run (F (.nx r) (h' z)) (m z) Q) : Run ((dputF (.ref l) (encI k) (c v) r h).bind F) ((putNR d k v).bind m) Q := by
  unfold putNR
  by_cases q : d.length < 1000000
  · rw [if_pos q, R.bind_ok]
    have e : gDPut h (.ref l) (encI k) (c v) = some (h' (putN d k v)) := by
      unfold gDPut
      simp only [hx]
      rw [if_pos (by rw [dKs_enc, List.length_map, decide_eq_true q]; rfl)]
      rw [show encI k = Val.int k from rfl, put_enc]
      exact congrArg some (hh _)
    unfold dputF
    rw [e]; exact o _
  · rw [if_neg q]; trivial
def dupF (l : Nat) (y : Val) (h2 : PH) : Res Val := match y with
  | .dct ks2 vs2 => (match h2[l]? with
    | some (.dct ks vs) => if isKK ks && isKK ks2 then (let q := putL ks2 vs2 (ks, vs); .ok .non (h2.set l (.dct q.1 q.2))) else .stuck
    | _ => .stuck)
  | _ => .stuck
theorem c_dup {c : γ → Val} {d : List (Int × γ)} (ha : a r h = .ok (.ref l) h) (hx : h[l]? = some (encD c d)) (o : Run ((b r h).bind fun y h2 => (dupF l y h2).bind f) M Q) : Run ((eDUpd a b r h).bind f) M Q := by
  unfold eDUpd
  simp only [ha, x_bok, hx]
  rw [if_pos dKs_enc]
  simp only [bind_assoc]
  exact o
theorem isKK_enc {c : γ → Val} (d : List (Int × γ)) : isKK (d.map fun p => encI p.1) = decide (d.length < 400000) := by
  unfold isKK; rw [dKs_enc, List.length_map]; rfl
theorem c_dup2 {c : γ → Val} {d d2 : List (Int × γ)} {h' : List (Int × γ) → PH} {m : List (Int × γ) → R α} (hx : h[l]? = some (encD c d)) (hh : ∀ z, h.set l (encD c z) = h' z) (o : ∀ z, Run (f .non (h' z)) (m z) Q) : Run ((dupF l (encD c d2) h).bind f) ((updNR d d2).bind m) Q := by
  unfold updNR
  by_cases q : d.length < 400000 ∧ d2.length < 400000
  · rw [if_pos q, R.bind_ok]
    have e : dupF l (encD c d2) h = .ok .non (h' (updN d d2)) := by
      unfold dupF
      simp only [hx]
      rw [if_pos (by rw [isKK_enc (c := c), isKK_enc (c := c), decide_eq_true q.1, decide_eq_true q.2]; rfl)]
      rw [putL_enc]
      exact congrArg (Res.ok Val.non) (hh _)
    rw [e]; exact o _
  · rw [if_neg q]; trivial
end
end SW

namespace SW
open PySem
/-! ### one of two -/
def encU {α β : Type} (c : α → Val) (d : β → Val) (s : α ⊕ β) : Val := match s with
  | .inl a => c a
  | .inr b => d b
/-- never alike -/
def Disj {α β : Type} (c : α → Val) (d : β → Val) : Prop := ∀ a b, (veq (c a) (d b) = false ∧ veq (d b) (c a) = false) ∧ (vis (c a) (d b) = false ∧ vis (d b) (c a) = false)
section
variable {α β γ : Type} {c : α → Val} {d : β → Val} {e : γ → Val} {h : PH}
theorem enc_u [DecidableEq α] [DecidableEq β] {n m : Nat} (o1 : EncOK c n) (o2 : EncOK d m) (hd : Disj c d) : EncOK (encU c d) (max n m) := ⟨fun h s => by cases s <;> simp only [encU, o1.vw, o2.vw],
  fun s => by cases s with
    | inl a => exact dat_up (o1.dt a) (Nat.le_max_left ..)
    | inr b => exact dat_up (o2.dt b) (Nat.le_max_right ..),
  fun s t => by
    cases s with
    | inl a => cases t with
      | inl a2 => simp only [encU, o1.eq, Sum.inl.injEq]
      | inr b2 => simp only [encU, (hd a b2).1.1]; exact (decide_eq_false fun z => nomatch z).symm
    | inr b => cases t with
      | inl a2 => simp only [encU, (hd a2 b).1.2]; exact (decide_eq_false fun z => nomatch z).symm
      | inr b2 => simp only [encU, o2.eq, Sum.inr.injEq],
  fun s => by cases s <;> simp only [encU, o1.fr, o2.fr]⟩
theorem is_u (o1 : EncIs c) (o2 : EncIs d) (hd : Disj c d) : EncIs (encU c d) := ⟨fun s t i => by
  haveI := Classical.propDecidable
  cases s with
  | inl a => cases t with
    | inl a2 => simp only [encU, o1.is, Sum.inl.injEq]
    | inr b2 => simp only [encU, (hd a b2).2.1]; exact (decide_eq_false fun z => nomatch z).symm
  | inr b => cases t with
    | inl a2 => simp only [encU, (hd a2 b).2.2]; exact (decide_eq_false fun z => nomatch z).symm
    | inr b2 => simp only [encU, o2.is, Sum.inr.injEq]⟩
theorem nn_u (o1 : NnOK c) (o2 : NnOK d) : NnOK (encU c d) := ⟨fun s => by cases s <;> simp only [encU, o1.nn, o2.nn], fun h s => by cases s <;> simp only [encU, o1.al, o2.al], fun s y hy => by
  cases s with
  | inl a => exact o1.n1 a y hy
  | inr b => exact o2.n1 b y hy⟩
theorem optUl {o : Option α} : encO c o = encO (encU c d) (o.map Sum.inl) := by cases o <;> rfl
theorem optUr {o : Option β} : encO d o = encO (encU c d) (o.map Sum.inr) := by cases o <;> rfl
theorem o_uix {i : Val} {f : α → γ} {g : β → γ} {s : α ⊕ β} (h1 : ∀ a, gIx h (c a) i = some (e (f a))) (h2 : ∀ b, gIx h (d b) i = some (e (g b))) : gIx h (encU c d s) i = some (e (Sum.elim f g s)) := by
  cases s with
  | inl a => exact h1 a
  | inr b => exact h2 b
theorem o_uisi {p : PH → Val → Option Val} {z : Val} {s : α ⊕ β} (h1 : ∀ a, p h (c a) = some z) (h2 : ∀ b, p h (d b) = some z) : p h (encU c d s) = some z := by
  cases s with
  | inl a => exact h1 a
  | inr b => exact h2 b
end
theorem c_optS {α β γ : Type} {Q : α → β → PH → Prop} {x : Res β} {a : γ} {m : γ → R α} (o : Run x (m a) Q) : Run x ((optR (some a)).bind m) Q := o
theorem c_optN {α β γ : Type} {Q : α → β → PH → Prop} {x : Res β} {m : γ → R α} : Run x ((optR none).bind m) Q := True.intro
theorem o_isB {h : PH} {a b : Bool} : gIs h (encB a) (encB b) = some (encB (decide (a = b))) := rfl
end SW

namespace SW
open PySem
/-! ### sorted(set(pairs)) -/
def setPR (ps : List (Int × Int)) : R (List (Int × Int)) := if decide (ps.length < 64) && ps.all smP then .ok (ssP ps) else .st
theorem prs_map : ∀ ps : List (Int × Int), prsV (ps.map (encP encI encI)) = some ps
  | [] => rfl
  | p :: ps => by
    show (prsV (ps.map (encP encI encI))).map _ = _
    rw [prs_map ps]; rfl
theorem setOut_map (ps : List (Int × Int)) : OpV (setOut (ps.map (encP encI encI))) (setPR ps) fun ys => ys.map (encP encI encI) := by
  unfold setOut setPR
  rw [prs_map]
  simp only [Option.bind_some]
  by_cases c : (decide (ps.length < 64) && ps.all smP) = true
  · rw [if_pos c, if_pos c]; exact rfl
  · rw [if_neg c, if_neg c]; trivial
section
variable {h : PH} {ps : List (Int × Int)} {l : Nat}
theorem v_setPL : OpV (gSS h [.lst (ps.map (encP encI encI))]) (setPR ps) fun ys => ys.map (encP encI encI) := by
  have e : gSS h [.lst (ps.map (encP encI encI))] = setOut (ps.map (encP encI encI)) := by simp only [gSS, view_lst']
  rw [e]; exact setOut_map ps
theorem v_setPT : OpV (gSS h [.tup (ps.map (encP encI encI))]) (setPR ps) fun ys => ys.map (encP encI encI) := by
  have e : gSS h [.tup (ps.map (encP encI encI))] = setOut (ps.map (encP encI encI)) := by simp only [gSS, view_tup']
  rw [e]; exact setOut_map ps
theorem v_setPRf (hl : h[l]? = some (.lst (ps.map (encP encI encI)))) : OpV (gSS h [.ref l]) (setPR ps) fun ys => ys.map (encP encI encI) := by
  have e : gSS h [.ref l] = setOut (ps.map (encP encI encI)) := by simp only [gSS, view, hl]
  rw [e]; exact setOut_map ps
end
end SW

namespace SW
open PySem PySem.Spec PyProof.Rows L2
def c_MOST_WARES : Val := .int 9
def c_MOST_ORDERS : Val := .int 3000
def c_MOST_FINDS : Val := .int 8
def b_is_integer : Stm := (sRet (eAnd (eUn (gIsi .int) (eVar 0)) (eNot (eUn (gIsi .bool) (eVar 0)))))
def d_is_integer : Dm := defRun 1 b_is_integer
def b_is_within : Stm := (sRet (eAnd (eCallP d_is_integer [(eVar 0)]) (eChain gLe gLe (eVar 1) (eVar 0) (eVar 2))))
def d_is_within : Dm := defRun 3 b_is_within
def b_is_lot : Stm := (sSeq (sIf (kOr (kNot (eUn (gIsi .tup) (eVar 1))) (kNot (eCall gAll [(eFrz (eComp (sSeq1 srcSeq (eVar 1)) (gSet 2) none (eCallP d_is_within [(eVar 2), (eC (.int 0)), (eBin gSub (eVar 0) (eC (.int 1)))]) [2]))]))) (sRet (eC (.bl false))) sNil)
    (sRet (eCall gAll [(eFrz (eComp (sRng [(eBin gSub (eCall gLen [(eVar 1)]) (eC (.int 1)))]) (gSet 3) none (eBin gLt (eBin gIx (eVar 1) (eVar 3)) (eBin gIx (eVar 1) (eBin gAdd (eVar 3) (eC (.int 1))))) [3]))])))
def d_is_lot : Dm := defRun 4 b_is_lot
def b_check_finds : Stm := (sSeq (sIf (kNot (eCallP d_is_within [(eVar 0), (eC (.int 1)), (eC c_MOST_WARES)])) sStuck sNil)
    (sSeq (sIf (kOr (kNot (eUn (gIsi .tup) (eVar 1))) (kNot (eChain gLe gLe (eC (.int 1)) (eCall gLen [(eVar 1)]) (eC c_MOST_FINDS)))) sStuck sNil)
    (sIf (kNot (eCall gAll [(eFrz (eComp (sSeq1 srcSeq (eVar 1)) (gSet 2) none (eCallP d_is_lot [(eVar 0), (eVar 2)]) [2]))])) sStuck sNil)))
def d_check_finds : Dm := defRun 3 b_check_finds
def b_is_told : Stm := (sSeq (sIf (kOr (kNot (eUn (gIsi .tup) (eVar 1))) (kOr (eBin gNe (eCall gLen [(eVar 1)]) (eC (.int 2))) (kNot (eCall gAll [(eFrz (eComp (sSeq1 srcSeq (eVar 1)) (gSet 2) none (eCallP d_is_within [(eVar 2), (eC (.int 0)), (eBin gSub (eVar 0) (eC (.int 1)))]) [2]))])))) (sRet (eC (.bl false))) sNil)
    (sRet (eBin gNe (eBin gIx (eVar 1) (eC (.int 0))) (eBin gIx (eVar 1) (eC (.int 1))))))
def d_is_told : Dm := defRun 3 b_is_told
def b_check_told : Stm := (sSeq (sExpr (eCallP d_check_finds [(eVar 0), (eVar 1)]))
    (sSeq (sIf (kOr (kNot (eUn (gIsi .tup) (eVar 2))) (kNot (eCall gAll [(eFrz (eComp (sSeq1 srcSeq (eVar 2)) (gSet 3) none (eCallP d_is_told [(eCall gLen [(eVar 1)]), (eVar 3)]) [3]))]))) sStuck sNil)
    (sIf (kNot (eCall gAll [(eFrz (eComp (sRng [(eBin gSub (eCall gLen [(eVar 2)]) (eC (.int 1)))]) (gSet 4) none (eBin gLt (eBin gIx (eVar 2) (eVar 4)) (eBin gIx (eVar 2) (eBin gAdd (eVar 4) (eC (.int 1))))) [4]))])) sStuck sNil)))
def d_check_told : Dm := defRun 5 b_check_told
def b_can_follow : Stm := (sSeq (sIf (eBin gEq (eCall gLen [(eVar 1)]) (eC (.int 0))) (sRet (eC (.bl true))) sNil)
    (sSeq (sAsg (eBin gIx (eVar 0) (eBin gIx (eVar 1) (eUn gNeg (eC (.int 1))))) (gSet 3))
    (sRet (eNot (eCall gAny [(eFrz (eComp (sSeq1 srcSeq (eBin gIx (eVar 0) (eVar 2))) (gSet 5) none (eAnd (eBin gNotIn (eVar 5) (eVar 3)) (eCall gAny [(eFrz (eComp (sSeq1 srcSeq (eVar 1)) (gSet 4) none (eBin gIn (eVar 5) (eBin gIx (eVar 0) (eVar 4))) [4]))])) [5]))])))))
def d_can_follow : Dm := defRun 6 b_can_follow
def b_orders_by_age : Stm := (sSeq (sPar 3 4 [(eLoc (eArgs [])), (eLoc (eArgs [(eTup [])]))])
    (sSeq (sWh (kAnd (eBin gGt (eCall gLen [(eVar 4)]) (eC (.int 0))) (eBin gLt (eCall gLen [(eVar 3)]) (eVar 2))) (sWipe [5, 6] (sSeq (sAsg (eMet gPop (eVar 4) []) (gSet 5))
    (sIf (eBin gEq (eCall gLen [(eVar 5)]) (eCall gLen [(eVar 0)])) (sExpr (eMet gAppend (eVar 3) [(eVar 5)])) (sSeq (sAsg (eFrz (eComp (sRng [(eCall gLen [(eVar 0)])]) (gSet 7) (some (kAnd (eBin gNotIn (eVar 7) (eVar 5)) (eCallP d_can_follow [(eVar 0), (eVar 5), (eVar 7)]))) (eVar 7) [7])) (gSet 6))
    (sSeq (sAsg (eFrz (eComp (sSeq1 srcSeq (eVar 6)) (gSet 7) (some (kNot (eCall gAny [(eFrz (eComp (sSeq1 srcSeq (eVar 1)) (gSet 8) none (eAnd (eBin gEq (eBin gIx (eVar 8) (eC (.int 1))) (eVar 7)) (eBin gNotIn (eBin gIx (eVar 8) (eC (.int 0))) (eVar 5))) [8]))]))) (eVar 7) [7])) (gSet 6))
    (sExpr (eMet gExtend (eVar 4) [(eFrz (eComp (sSeq1 srcSeq (eRevA (eVar 6))) (gSet 7) none (eBin gAdd (eVar 5) (eTup [(eVar 7)])) [7]))]))))))))
    (sRet (eMove 3))))
def d_orders_by_age : Dm := defRun 9 b_orders_by_age
def b_age_orders : Stm := (sSeq (sExpr (eCallP d_check_told [(eVar 0), (eVar 1), (eVar 2)]))
    (sSeq (sAsg (eCallP d_orders_by_age [(eVar 1), (eVar 2), (eBin gAdd (eC c_MOST_ORDERS) (eC (.int 1)))]) (gSet 3))
    (sSeq (sIf (eBin gGt (eCall gLen [(eVar 3)]) (eC c_MOST_ORDERS)) sStuck sNil)
    (sRet (eCall gTuple [(eVar 3)])))))
def d_age_orders : Dm := defRun 4 b_age_orders
def b_stands_ahead : Stm := (sRet (eCall gAll [(eFrz (eComp (sSeq1 srcSeq (eVar 0)) (gSet 3) none (eBin gLt (eIdxT (eVar 3) (eVar 1)) (eIdxT (eVar 3) (eVar 2))) [3]))]))
def d_stands_ahead : Dm := defRun 4 b_stands_ahead
def b_surely_ahead : Stm := (sSeq (sExpr (eCallP d_check_told [(eVar 0), (eVar 1), (eVar 2)]))
    (sSeq (sAsg (eCallP d_orders_by_age [(eVar 1), (eVar 2), (eBin gAdd (eC c_MOST_ORDERS) (eC (.int 1)))]) (gSet 3))
    (sSeq (sIf (eBin gGt (eCall gLen [(eVar 3)]) (eC c_MOST_ORDERS)) sStuck sNil)
    (sSeq (sAsg (eLoc (eArgs [])) (gSet 4))
    (sSeq (sFor (sRng [(eCall gLen [(eVar 1)])]) (gSet 5) (sWipe [5] (sExpr (eMet gExtend (eVar 4) [(eFrz (eComp (sRng [(eCall gLen [(eVar 1)])]) (gSet 6) (some (kAnd (eBin gNe (eVar 5) (eVar 6)) (eCallP d_stands_ahead [(eVar 3), (eVar 5), (eVar 6)]))) (eTup [(eVar 5), (eVar 6)]) [6]))]))))
    (sRet (eCall gTuple [(eVar 4)])))))))
def d_surely_ahead : Dm := defRun 7 b_surely_ahead
def b__law_hand : Stm := (sSeq (sAsg (eFrz (eComp (sSeq1 srcSeq (eCut (eVar 0) none (some (eC (.int 63))))) (gSet 2) none (eCall gAbs [(eCall gInt [(eVar 2)])]) [2])) (gSet 1))
    (sRet (eLoc (eArgs [(eVar 1), (eC (.int 0)), (eC (.int 0)), (eBin gAdd (eC (.int 1171)) (eBin gMul (eC (.int 61)) (eCall gLen [(eVar 1)]))), (eC (.int 0))]))))
def d__law_hand : Dm := defRun 3 b__law_hand
def b__law_same (self : Dm) : Stm := (sSeq (sIf (kOr (eUn (gIsi .tup) (eVar 1)) (eUn (gIsi .lst) (eVar 1))) (sSeq (sIf (kOr (eBin gNe (eUn (gIsi .tup) (eVar 0)) (eUn (gIsi .tup) (eVar 1))) (eBin gNe (eUn (gIsi .lst) (eVar 0)) (eUn (gIsi .lst) (eVar 1)))) (sRet (eC (.bl false))) sNil)
    (sRet (eAnd (eBin gEq (eCall gLen [(eVar 0)]) (eCall gLen [(eVar 1)])) (eCall gAll [(eFrz (eComp (sZip [(eVar 0), (eVar 1)]) (gUnp 2 (gsCons (gSet 2) (gsCons (gSet 3) gsNil))) none (eCallP self [(eVar 2), (eVar 3)]) [2, 3]))])))) sNil)
    (sSeq (sIf (kOr (eBin gNe (eUn (gIsi .bool) (eVar 0)) (eUn (gIsi .bool) (eVar 1))) (eBin gNe (eBin gIs (eVar 0) (eC .non)) (eBin gIs (eVar 1) (eC .non)))) (sRet (eC (.bl false))) sNil)
    (sRet (eAnd (eBin gEq (eUn (gIsi .int) (eVar 0)) (eUn (gIsi .int) (eVar 1))) (eBin gEq (eVar 0) (eVar 1))))))
def r__law_same : Nat → Dm
  | 0 => fun _ _ => .stuck
  | n + 1 => defRun 4 (b__law_same (r__law_same n))
def d__law_same : Dm := r__law_same 20
def b__law_draw : Stm := (sSeq (sIf (kAnd (eBin gEq (eBin gIx (eVar 0) (eC (.int 2))) (eC (.int 0))) (eBin gLt (eBin gIx (eVar 0) (eC (.int 1))) (eCall gLen [(eBin gIx (eVar 0) (eC (.int 0)))]))) (sWipe [2] (sSeq (sAsg (eBin gIx (eBin gIx (eVar 0) (eC (.int 0))) (eBin gIx (eVar 0) (eC (.int 1)))) (gSet 2))
    (sSeq (sAsg (eBin gAdd (eBin gIx (eVar 0) (eC (.int 1))) (eC (.int 1))) (gStore (eVar 0) (eC (.int 1))))
    (sSeq (sAsg (eBin gMod (eCall gInt [(eBin gAdd (eBin gAdd (eBin gMul (eBin gIx (eVar 0) (eC (.int 3))) (eC (.int 69621))) (eBin gMul (eVar 2) (eC (.int 48271)))) (eC (.int 17)))]) (eC (.int 2147483629))) (gStore (eVar 0) (eC (.int 3))))
    (sIf (eBin gGe (eVar 2) (eBin gPow (eC (.int 10)) (eC (.int 18)))) (sAsg (eVar 2) (gStore (eVar 0) (eC (.int 2)))) sNil))))) (sWipe [2] sNil))
    (sSeq (sIf (eBin gGt (eBin gIx (eVar 0) (eC (.int 2))) (eC (.int 0))) (sSeq (sAsg (eBin gMod (eCall gInt [(eBin gIx (eVar 0) (eC (.int 2)))]) (eVar 1)) (gSet 3))
    (sSeq (sAsg (eBin gDiv (eBin gIx (eVar 0) (eC (.int 2))) (eVar 1)) (gStore (eVar 0) (eC (.int 2))))
    (sRet (eVar 3)))) sNil)
    (sSeq (sAsg (eBin gAdd (eBin gIx (eVar 0) (eC (.int 4))) (eC (.int 1))) (gStore (eVar 0) (eC (.int 4))))
    (sSeq (sAsg (eBin gMod (eCall gInt [(eBin gMul (eCall gInt [(eBin gAdd (eBin gIx (eVar 0) (eC (.int 3))) (eBin gMul (eC (.int 7919)) (eBin gIx (eVar 0) (eC (.int 4)))))]) (eC (.int 40692)))]) (eC (.int 2147483647))) (gSet 4))
    (sSeq (sAsg (eBin gMod (eCall gInt [(eBin gMul (eVar 4) (eBin gAdd (eBin gDiv (eVar 4) (eC (.int 1009))) (eC (.int 69621))))]) (eC (.int 2147483647))) (gSet 4))
    (sSeq (sAsg (eBin gMod (eCall gInt [(eBin gMul (eVar 4) (eBin gAdd (eBin gDiv (eVar 4) (eC (.int 2003))) (eC (.int 40014))))]) (eC (.int 2147483563))) (gSet 4))
    (sRet (eBin gMod (eCall gInt [(eBin gDiv (eVar 4) (eC (.int 16)))]) (eVar 1)))))))))
def d__law_draw : Dm := defRun 5 b__law_draw
def b__law_any : Stm := (sRet (eBin gIx (eVar 1) (eCall1 d__law_draw [(eVar 0), (eCall gLen [(eVar 1)])])))
def d__law_any : Dm := defRun 2 b__law_any
def b__law_mixed : Stm := (sSeq (sPar 2 3 [(eLoc (eCallN gListN [(eVar 1)])), (eLoc (eArgs []))])
    (sSeq (sWh (eBin gGt (eCall gLen [(eVar 2)]) (eC (.int 0))) (sWipe [] (sExpr (eMet gAppend (eVar 3) [(eMet gPopAt (eVar 2) [(eCall1 d__law_draw [(eVar 0), (eCall gLen [(eVar 2)])])])]))))
    (sRet (eMove 3))))
def d__law_mixed : Dm := defRun 4 b__law_mixed
def b__law_finds : Stm := (sSeq (sAsg (eTup [(eBin gAdd (eC (.int 1)) (eCall1 d__law_any [(eVar 0), (eFrz (eArgs [(eC (.int 0)), (eC (.int 1)), (eC (.int 2)), (eC (.int 3)), (eC (.int 4)), (eC (.int 4))]))])), (eCall gMax2 [(eC (.int 1)), (eBin gSub (eVar 1) (eCall1 d__law_any [(eVar 0), (eFrz (eArgs [(eC (.int 0)), (eC (.int 0)), (eC (.int 0)), (eC (.int 1)), (eC (.int 1)), (eC (.int 2)), (eC (.int 4))]))]))]), (eLoc (eArgs []))]) (gUnp 3 (gsCons (gSet 2) (gsCons (gSet 3) (gsCons (gSet 4) gsNil)))))
    (sSeq (sIf (eBin gEq (eCall1 d__law_draw [(eVar 0), (eC (.int 2))]) (eC (.int 0))) (sSeq (sFor (sRng [(eVar 3)]) (gSet 5) (sWipe [5] (sExpr (eMet gAppend (eVar 4) [(eCall gTuple [(eFrz (eComp (sRng [(eVar 2)]) (gSet 6) (some (eBin gEq (eCall1 d__law_draw [(eVar 0), (eC (.int 3))]) (eC (.int 0)))) (eVar 6) [6]))])]))))
    (sRet (eTup [(eVar 2), (eCall gTuple [(eVar 4)])]))) sNil)
    (sSeq (sAsg (eLoc (eArgs [])) (gSet 7))
    (sSeq (sFor (sRng [(eVar 2)]) (gSet 6) (sWipe [6, 8] (sSeq (sAsg (eCall1 d__law_draw [(eVar 0), (eVar 3)]) (gSet 8))
    (sExpr (eMet gAppend (eVar 7) [(eTup [(eVar 8), (eBin gAdd (eVar 8) (eCall1 d__law_draw [(eVar 0), (eC (.int 3))]))])])))))
    (sSeq (sAsg (eCall1 d__law_mixed [(eVar 0), (eFrz (eRg1 (eVar 3)))]) (gSet 9))
    (sSeq (sPre [5] (sFor (sRng [(eVar 3)]) (gSet 5) (sWipe [5] (sExpr (eMet gAppend (eVar 4) [(eCall gTuple [(eFrz (eComp (sRng [(eVar 2)]) (gSet 6) (some (eChain gLe gLe (eBin gIx (eBin gIx (eVar 7) (eVar 6)) (eC (.int 0))) (eBin gIx (eVar 9) (eVar 5)) (eBin gIx (eBin gIx (eVar 7) (eVar 6)) (eC (.int 1))))) (eVar 6) [6]))])])))))
    (sSeq (sIf (eBin gEq (eCall1 d__law_draw [(eVar 0), (eC (.int 4))]) (eC (.int 0))) (sWipe [6, 10] (sSeq (sAsg (eTup [(eCall1 d__law_draw [(eVar 0), (eVar 3)]), (eCall1 d__law_draw [(eVar 0), (eVar 2)])]) (gUnp 2 (gsCons (gSet 10) (gsCons (gSet 6) gsNil))))
    (sAsg (eCall gTuple [(eFrz (eComp (sRng [(eVar 2)]) (gSet 11) (some (eBin gNe (eBin gIn (eVar 11) (eBin gIx (eVar 4) (eVar 10))) (eBin gEq (eVar 11) (eVar 6)))) (eVar 11) [11]))]) (gStore (eVar 4) (eVar 10))))) (sWipe [6, 10] sNil))
    (sRet (eTup [(eVar 2), (eCall gTuple [(eVar 4)])])))))))))
def d__law_finds : Dm := defRun 12 b__law_finds
def b__law_told_pairs : Stm := (sSeq (sPar 2 3 [(eCall1 d__law_mixed [(eVar 0), (eFrz (eRg1 (eVar 1)))]), (eLoc (eArgs []))])
    (sSeq (sFor (sRng [(eCall1 d__law_any [(eVar 0), (eFrz (eArgs [(eC (.int 0)), (eC (.int 1)), (eC (.int 2)), (eC (.int 4)), (eC (.int 6))]))])]) (gSet 4) (sWipe [4, 5, 6] (sSeq (sPar 5 6 [(eCall1 d__law_draw [(eVar 0), (eVar 1)]), (eCall1 d__law_draw [(eVar 0), (eVar 1)])])
    (sIf (kAnd (eBin gNe (eVar 5) (eVar 6)) (kOr (eBin gLt (eVar 5) (eVar 6)) (eBin gEq (eCall1 d__law_draw [(eVar 0), (eC (.int 3))]) (eC (.int 0))))) (sExpr (eMet gAppend (eVar 3) [(eTup [(eBin gIx (eVar 2) (eVar 5)), (eBin gIx (eVar 2) (eVar 6))])])) sNil))))
    (sRet (eCall gTuple [(eFrz (eCallN gSS [(eVar 3)]))]))))
def d__law_told_pairs : Dm := defRun 7 b__law_told_pairs
def b__law_orders : Stm := (sSeq (sAsg (eFrz (eArgs [(eTup [])])) (gSet 1))
    (sSeq (sFor (sRng [(eVar 0)]) (gSet 2) (sScope (sWipe [2, 3, 4] (sSeq (sAsg (eLoc (eArgs [])) (gSet 3))
    (sSeq (sFor (sSeq1 srcSeq (eVar 1)) (gSet 4) (sWipe [4] (sExpr (eMet gExtend (eVar 3) [(eFrz (eComp (sRng [(eVar 0)]) (gSet 5) (some (eBin gNotIn (eVar 5) (eVar 4))) (eBin gAdd (eVar 4) (eTup [(eVar 5)])) [5]))]))))
    (sAsg (eMove 3) (gSet 1)))))))
    (sRet (eVar 1))))
def d__law_orders : Dm := defRun 6 b__law_orders
def b__law_together : Stm := (sSeq (sFor (sRng [(eVar 0)]) (gSet 3) (sWipe [3, 4] (sSeq (sAsg (eFrz (eComp (sSeq1 srcEnumA (eVar 2)) (gUnp 2 (gsCons (gSet 5) (gsCons (gSet 6) gsNil))) (some (eBin gIn (eVar 3) (eBin gIx (eVar 1) (eVar 6)))) (eVar 5) [5, 6])) (gSet 4))
    (sIf (kAnd (eBin gGt (eCall gLen [(eVar 4)]) (eC (.int 0))) (eBin gNe (eBin gAdd (eBin gSub (eBin gIx (eVar 4) (eUn gNeg (eC (.int 1)))) (eBin gIx (eVar 4) (eC (.int 0)))) (eC (.int 1))) (eCall gLen [(eVar 4)]))) (sRet (eC (.bl false))) sNil))))
    (sRet (eC (.bl true))))
def d__law_together : Dm := defRun 7 b__law_together
def b__law_keeps : Stm := (sRet (eCall gAll [(eFrz (eComp (sSeq1 srcSeq (eVar 1)) (gUnp 2 (gsCons (gSet 2) (gsCons (gSet 3) gsNil))) none (eBin gLt (eIdxT (eVar 0) (eVar 2)) (eIdxT (eVar 0) (eVar 3))) [2, 3]))]))
def d__law_keeps : Dm := defRun 4 b__law_keeps
def b__law_age_orders : Stm := (sRet (eFrz (eComp (sSeq1 srcSeq (eCallP d__law_orders [(eCall gLen [(eVar 1)])])) (gSet 3) (some (kAnd (eCallP d__law_keeps [(eVar 3), (eVar 2)]) (eCallP d__law_together [(eVar 0), (eVar 1), (eVar 3)]))) (eVar 3) [3])))
def d__law_age_orders : Dm := defRun 4 b__law_age_orders
def b__law_sure : Stm := (sSeq (sAsg (eLoc (eArgs [])) (gSet 2))
    (sSeq (sFor (sRng [(eVar 0)]) (gSet 3) (sWipe [3, 4] (sFor (sRng [(eVar 0)]) (gSet 4) (sWipe [4] (sIf (kAnd (eBin gNe (eVar 3) (eVar 4)) (eCall gAll [(eFrz (eComp (sSeq1 srcSeq (eVar 1)) (gSet 5) none (eBin gLt (eIdxT (eVar 5) (eVar 3)) (eIdxT (eVar 5) (eVar 4))) [5]))])) (sExpr (eMet gAppend (eVar 2) [(eTup [(eVar 3), (eVar 4)])])) sNil)))))
    (sRet (eCall gTuple [(eVar 2)]))))
def d__law_sure : Dm := defRun 6 b__law_sure
def b__law_is_right : Stm := (sSeq (sPar 4 5 [(eCall gLen [(eVar 2)]), (eCallP d__law_age_orders [(eVar 1), (eVar 2), (eVar 3)])])
    (sSeq (sAsg (eCallP d__law_sure [(eVar 4), (eVar 5)]) (gSet 6))
    (sSeq (sIf (kNot (eCallP d__law_same [(eFrz (eArgs [(eCallP d_age_orders [(eVar 1), (eVar 2), (eVar 3)]), (eCallP d_surely_ahead [(eVar 1), (eVar 2), (eVar 3)])])), (eFrz (eArgs [(eCall gTuple [(eVar 5)]), (eVar 6)]))])) (sRet (eC (.bl false))) sNil)
    (sSeq (sAsg (eCall gTuple [(eFrz (eCallN gSortedN [(eFrz (eComp (sSeq1 srcSeq (eVar 3)) (gUnp 2 (gsCons (gSet 8) (gsCons (gSet 9) gsNil))) none (eTup [(eVar 9), (eVar 8)]) [8, 9]))]))]) (gSet 7))
    (sSeq (sIf (eBin gNe (eCallP d_age_orders [(eVar 1), (eVar 2), (eVar 7)]) (eCall gTuple [(eFrz (eCallN gSortedN [(eFrz (eComp (sSeq1 srcSeq (eVar 5)) (gSet 10) none (eRevA (eVar 10)) [10]))]))])) (sRet (eC (.bl false))) sNil)
    (sSeq (sIf (kAnd (eBin gGt (eCall gLen [(eVar 5)]) (eC (.int 0))) (eBin gNe (eCallP d_age_orders [(eVar 1), (eVar 2), (eVar 6)]) (eCall gTuple [(eVar 5)]))) (sRet (eC (.bl false))) sNil)
    (sSeq (sAsg (eTup [(eCall1 d__law_draw [(eVar 0), (eVar 4)]), (eCall1 d__law_draw [(eVar 0), (eVar 4)])]) (gUnp 2 (gsCons (gSet 11) (gsCons (gSet 12) gsNil))))
    (sSeq (sAsg (eCall gTuple [(eFrz (eCallN gSS [(eBin gAdd (eVar 3) (eIf (eBin gNe (eVar 11) (eVar 12)) (eTup [(eTup [(eVar 11), (eVar 12)])]) (eTup [])))]))]) (gSet 13))
    (sRet (eBin gEq (eCallP d_age_orders [(eVar 1), (eVar 2), (eVar 13)]) (eCall gTuple [(eFrz (eComp (sSeq1 srcSeq (eVar 5)) (gSet 10) (some (kOr (eBin gEq (eVar 11) (eVar 12)) (eBin gLt (eIdxT (eVar 10) (eVar 11)) (eIdxT (eVar 10) (eVar 12))))) (eVar 10) [10]))])))))))))))
def d__law_is_right : Dm := defRun 14 b__law_is_right
def b_law : Stm := (sSeq (sAsg (eLoc (eCallNP d__law_hand [(eVar 0)])) (gSet 1))
    (sSeq (sAsg (eTup [(eTup [(eC (.int 0))]), (eTup [(eC (.int 0)), (eC (.int 1))]), (eTup [(eC (.int 1))])]) (gSet 2))
    (sSeq (sIf (kNot (eCallP d__law_same [(eFrz (eArgs [(eCallP d_age_orders [(eC (.int 2)), (eVar 2), (eTup [])]), (eCallP d_surely_ahead [(eC (.int 2)), (eVar 2), (eTup [(eTup [(eC (.int 0)), (eC (.int 2))])])])])), (eFrz (eArgs [(eTup [(eTup [(eC (.int 0)), (eC (.int 1)), (eC (.int 2))]), (eTup [(eC (.int 2)), (eC (.int 1)), (eC (.int 0))])]), (eTup [(eTup [(eC (.int 0)), (eC (.int 1))]), (eTup [(eC (.int 0)), (eC (.int 2))]), (eTup [(eC (.int 1)), (eC (.int 2))])])]))])) (sRet (eC (.bl false))) sNil)
    (sSeq (sIf (kNot (eCallP d__law_same [(eFrz (eArgs [(eCallP d_age_orders [(eC (.int 1)), (eTup [(eTup [(eC (.int 0))]), (eTup []), (eTup [(eC (.int 0))])]), (eTup [(eTup [(eC (.int 1)), (eC (.int 0))])])]), (eCallP d_surely_ahead [(eC (.int 1)), (eTup [(eTup []), (eTup [])]), (eTup [(eTup [(eC (.int 0)), (eC (.int 1))]), (eTup [(eC (.int 1)), (eC (.int 0))])])])])), (eFrz (eArgs [(eTup [(eTup [(eC (.int 1)), (eC (.int 0)), (eC (.int 2))]), (eTup [(eC (.int 1)), (eC (.int 2)), (eC (.int 0))])]), (eTup [(eTup [(eC (.int 0)), (eC (.int 1))]), (eTup [(eC (.int 1)), (eC (.int 0))])])]))])) (sRet (eC (.bl false))) sNil)
    (sSeq (sPre [2] (sFor (sRng [(eC (.int 5))]) (gSet 3) (sWipe [2, 3, 4] (sSeq (sAsg (eCall1 d__law_finds [(eVar 1), (eC (.int 5))]) (gUnp 2 (gsCons (gSet 4) (gsCons (gSet 2) gsNil))))
    (sIf (kNot (eCall1 d__law_is_right [(eVar 1), (eVar 4), (eVar 2), (eCall1 d__law_told_pairs [(eVar 1), (eCall gLen [(eVar 2)])])])) (sRet (eC (.bl false))) sNil)))))
    (sRet (eC (.bl true))))))))
def d_law : Dm := defRun 5 b_law
end SW

namespace SW
open PySem
def n__law_hand (a0 : (List Int)) : R ((List Int) × Int × Int × Int × Int) :=
  R.lt (List.map (fun v1 => (absI v1)) (cutL a0 none (some 63))) fun v2 => R.ok (v2, 0, 0, (1171 + (61 * ((v2.length : Nat) : Int))), 0)
def n_is_integer (a0 : Int) : R Bool :=
  R.ok true
def n_is_within (a0 : Int) (a1 : Int) (a2 : Int) : R Bool :=
  ((n_is_integer a0).bind fun v1 => if v1 = true then R.ok ((decide (a1 ≤ a0)) && (decide (a0 ≤ a2))) else R.ok false).bind fun v2 => R.ok v2
def n_is_lot (a0 : Int) (a1 : (List Int)) : R Bool :=
  ((mapR a1 fun v10 => (n_is_within v10 0 (a0 - 1)).bind fun v11 => R.ok v11).bind fun v13 => R.ok (!(v13.all id))).bind fun v14 => if v14 = true then R.ok false else (rngR 0 (((a1.length : Nat) : Int) - 1)).bind fun v15 => (mapR v15 fun v16 => (idxR a1 v16).bind fun v17 => (idxR a1 (v16 + 1)).bind fun v18 => R.ok (decide (v17 < v18))).bind fun v20 => R.ok (v20.all id)
def n_check_finds (a0 : Int) (a1 : (List (List Int))) : R Unit :=
  ((n_is_within a0 1 9).bind fun v1 => R.ok (!v1)).bind fun v2 => if v2 = true then R.st else if (!((decide (1 ≤ ((a1.length : Nat) : Int))) && (decide (((a1.length : Nat) : Int) ≤ 8)))) = true then R.st else ((mapR a1 fun v11 => (n_is_lot a0 v11).bind fun v12 => R.ok v12).bind fun v14 => R.ok (!(v14.all id))).bind fun v15 => if v15 = true then R.st else R.ok ()
def n_is_told (a0 : Int) (a1 : (Int × Int)) : R Bool :=
  ((mapR [a1.1, a1.2] fun v11 => (n_is_within v11 0 (a0 - 1)).bind fun v12 => R.ok v12).bind fun v14 => R.ok (!(v14.all id))).bind fun v15 => if v15 = true then R.ok false else R.ok (!(decide (a1.1 = a1.2)))
def n_check_told (a0 : Int) (a1 : (List (List Int))) (a2 : (List (Int × Int))) : R Unit :=
  (n_check_finds a0 a1).bind fun v1 => ((mapR a2 fun v11 => (n_is_told ((a1.length : Nat) : Int) v11).bind fun v12 => R.ok v12).bind fun v14 => R.ok (!(v14.all id))).bind fun v15 => if v15 = true then R.st else ((rngR 0 (((a2.length : Nat) : Int) - 1)).bind fun v16 => (mapR v16 fun v17 => (idxR a2 v17).bind fun v18 => (idxR a2 (v17 + 1)).bind fun v19 => R.ok (lte (encP encI encI) v18 v19)).bind fun v21 => R.ok (!(v21.all id))).bind fun v22 => if v22 = true then R.st else R.ok ()
def n_can_follow (a0 : (List (List Int))) (a1 : (List Int)) (a2 : Int) : R Bool :=
  if (decide (((a1.length : Nat) : Int) = 0)) = true then R.ok true else (idxR a1 (-1)).bind fun v1 => (idxR a0 v1).bind fun v2 => ((idxR a0 a2).bind fun v3 => (mapR v3 fun v4 => (if (!(decide (v4 ∈ v2))) = true then (mapR a1 fun v10 => (idxR a0 v10).bind fun v11 => R.ok (decide (v4 ∈ v11))).bind fun v13 => R.ok (v13.any id) else R.ok false).bind fun v14 => R.ok v14).bind fun v16 => R.ok (!(v16.any id))).bind fun v17 => R.ok v17
def n_orders_by_age (a0 : (List (List Int))) (a1 : (List (Int × Int))) (a2 : Int) : R (List (List Int)) :=
  (whR (trn 0) (fun v1 => R.ok ((decide (0 < ((v1.2.length : Nat) : Int))) && (decide (((v1.1.length : Nat) : Int) < a2)))) (fun v1 => (popR v1.2).bind fun v2 => if (decide (((v2.2.length : Nat) : Int) = ((a0.length : Nat) : Int))) = true then (snocR v1.1 v2.2).bind fun v3 => R.ok (v3, v2.1) else (rngR 0 ((a0.length : Nat) : Int)).bind fun v4 => (mapSR v4 () fun v6 v5 => (if (!(decide (v5 ∈ v2.2))) = true then (n_can_follow a0 v2.2 v5).bind fun v7 => R.ok v7 else R.ok false).bind fun v8 => if v8 = true then R.ok (some v5, ()) else R.ok (none, ())).bind fun v9 => R.lt (List.map (fun v10 => v10) (List.filter (fun v10 => (!((List.map (fun v11 => ((decide (v11.2 = v10)) && (!(decide (v11.1 ∈ v2.2))))) a1).any id))) v9.1)) fun v12 => (mapR (v12.reverse) fun v16 => (catR v2.2 [v16]).bind fun v17 => R.ok v17).bind fun v19 => (catR v2.1 v19).bind fun v20 => R.ok (v1.1, v20)) ([], [[]])).bind fun v21 => R.ok v21.1
def n_age_orders (a0 : Int) (a1 : (List (List Int))) (a2 : (List (Int × Int))) : R (List (List Int)) :=
  (n_check_told a0 a1 a2).bind fun v1 => (n_orders_by_age a1 a2 (3000 + 1)).bind fun v2 => if (decide (3000 < ((v2.length : Nat) : Int))) = true then R.st else R.ok v2
def n_stands_ahead (a0 : (List (List Int))) (a1 : Int) (a2 : Int) : R Bool :=
  (mapR a0 fun v5 => (indexR v5 a1).bind fun v6 => (indexR v5 a2).bind fun v7 => R.ok (decide (v6 < v7))).bind fun v9 => R.ok (v9.all id)
def n_surely_ahead (a0 : Int) (a1 : (List (List Int))) (a2 : (List (Int × Int))) : R (List (Int × Int)) :=
  (n_check_told a0 a1 a2).bind fun v1 => (n_orders_by_age a1 a2 (3000 + 1)).bind fun v2 => if (decide (3000 < ((v2.length : Nat) : Int))) = true then R.st else (rngR 0 ((a1.length : Nat) : Int)).bind fun v3 => (foldR v3 [] fun v5 v4 => (rngR 0 ((a1.length : Nat) : Int)).bind fun v6 => (mapSR v6 () fun v8 v7 => (if (!(decide (v4 = v7))) = true then (n_stands_ahead v2 v4 v7).bind fun v9 => R.ok v9 else R.ok false).bind fun v10 => if v10 = true then R.ok (some (v4, v7), ()) else R.ok (none, ())).bind fun v11 => (catR v5 v11.1).bind fun v12 => R.ok v12).bind fun v13 => R.ok v13
def n__law_same (a0 : ((List (List Int)) × (List (Int × Int)))) (a1 : ((List (List Int)) × (List (Int × Int)))) : R Bool := R.ok (decide (a0 = a1))
def n__law_draw (a0 : ((List Int) × Int × Int × Int × Int)) (a1 : Int) : R (Int × ((List Int) × Int × Int × Int × Int)) :=
  (if ((decide (a0.2.2.1 = 0)) && (decide (a0.2.1 < ((a0.1.length : Nat) : Int)))) = true then (idxR a0.1 a0.2.1).bind fun v1 => if (decide (1000000000000000000 ≤ v1)) = true then R.ok (a0.1, (a0.2.1 + 1), v1, ((((a0.2.2.2.1 * 69621) + (v1 * 48271)) + 17) % 2147483629), a0.2.2.2.2) else R.ok (a0.1, (a0.2.1 + 1), a0.2.2.1, ((((a0.2.2.2.1 * 69621) + (v1 * 48271)) + 17) % 2147483629), a0.2.2.2.2) else R.ok a0).bind fun v2 => if (decide (0 < v2.2.2.1)) = true then (modR v2.2.2.1 a1).bind fun v3 => (divR v2.2.2.1 a1).bind fun v4 => R.ok (v3, (v2.1, v2.2.1, v4, v2.2.2.2.1, v2.2.2.2.2)) else R.lt (((v2.2.2.2.1 + (7919 * (v2.2.2.2.2 + 1))) * 40692) % 2147483647) fun v5 => (mulR v5 ((v5 / 1009) + 69621)).bind fun v6 => (mulR (v6 % 2147483647) (((v6 % 2147483647) / 2003) + 40014)).bind fun v7 => (modR ((v7 % 2147483563) / 16) a1).bind fun v8 => R.ok (v8, (v2.1, v2.2.1, v2.2.2.1, v2.2.2.2.1, (v2.2.2.2.2 + 1)))
def n__law_any (a0 : ((List Int) × Int × Int × Int × Int)) (a1 : (List Int)) : R (Int × ((List Int) × Int × Int × Int × Int)) :=
  (n__law_draw a0 ((a1.length : Nat) : Int)).nx.bind fun v1 => (idxR a1 v1.1).bind fun v2 => R.ok (v2, v1.2)
def n__law_mixed (a0 : ((List Int) × Int × Int × Int × Int)) (a1 : (List Int)) : R ((List Int) × ((List Int) × Int × Int × Int × Int)) :=
  (whR (trn 0) (fun v1 => R.ok (decide (0 < ((v1.2.1.length : Nat) : Int)))) (fun v1 => (n__law_draw v1.1 ((v1.2.1.length : Nat) : Int)).nx.bind fun v2 => (popAtR v1.2.1 v2.1).bind fun v3 => (snocR v1.2.2 v3.2).bind fun v4 => R.ok (v2.2, v3.1, v4)) (a0, a1, [])).bind fun v5 => R.ok (v5.2.2, v5.1)
def n__law_finds (a0 : ((List Int) × Int × Int × Int × Int)) (a1 : Int) : R ((Int × (List (List Int))) × ((List Int) × Int × Int × Int × Int)) :=
  (n__law_any a0 [0, 1, 2, 3, 4, 4]).nx.bind fun v1 => (n__law_any v1.2 [0, 0, 0, 1, 1, 2, 4]).nx.bind fun v2 => (n__law_draw v2.2 2).nx.bind fun v3 => if (decide (v3.1 = 0)) = true then (rngR 0 (max2 1 (a1 - v2.1))).bind fun v4 => (foldR v4 (v3.2, []) fun v6 v5 => (rngR 0 (1 + v1.1)).bind fun v7 => (mapSR v7 v6.1 fun v9 v8 => (n__law_draw v9 3).nx.bind fun v10 => if (decide (v10.1 = 0)) = true then R.ok (some v8, v10.2) else R.ok (none, v10.2)).bind fun v11 => (snocR v6.2 v11.1).bind fun v12 => R.ok (v11.2, v12)).bind fun v13 => R.ok (((1 + v1.1), v13.2), v13.1) else (rngR 0 (1 + v1.1)).bind fun v14 => (foldR v14 (v3.2, []) fun v16 v15 => (n__law_draw v16.1 (max2 1 (a1 - v2.1))).nx.bind fun v17 => (n__law_draw v17.2 3).nx.bind fun v18 => (snocR v16.2 (v17.1, (v17.1 + v18.1))).bind fun v19 => R.ok (v18.2, v19)).bind fun v20 => (rngR 0 (max2 1 (a1 - v2.1))).bind fun v21 => (n__law_mixed v20.1 v21).nx.bind fun v22 => (rngR 0 (max2 1 (a1 - v2.1))).bind fun v23 => (foldR v23 [] fun v25 v24 => (rngR 0 (1 + v1.1)).bind fun v26 => (mapSR v26 () fun v28 v27 => ((idxR v20.2 v27).bind fun v29 => (idxR v22.1 v24).bind fun v30 => if (decide (v29.1 ≤ v30)) = true then (idxR v20.2 v27).bind fun v31 => R.ok (decide (v30 ≤ v31.2)) else R.ok false).bind fun v32 => if v32 = true then R.ok (some v27, ()) else R.ok (none, ())).bind fun v33 => (snocR v25 v33.1).bind fun v34 => R.ok v34).bind fun v35 => ((n__law_draw v22.2 4).nx.bind fun v36 => if (decide (v36.1 = 0)) = true then (n__law_draw v36.2 (max2 1 (a1 - v2.1))).nx.bind fun v37 => (n__law_draw v37.2 (1 + v1.1)).nx.bind fun v38 => (rngR 0 (1 + v1.1)).bind fun v39 => (mapSR v39 () fun v41 v40 => (idxR v35 v37.1).bind fun v42 => if (!(decide ((decide (v40 ∈ v42)) = (decide (v40 = v38.1))))) = true then R.ok (some v40, ()) else R.ok (none, ())).bind fun v43 => (setR v35 v37.1 v43.1).bind fun v44 => R.ok (v38.2, v44) else R.ok (v36.2, v35)).bind fun v45 => R.ok (((1 + v1.1), v45.2), v45.1)
def n__law_told_pairs (a0 : ((List Int) × Int × Int × Int × Int)) (a1 : Int) : R ((List (Int × Int)) × ((List Int) × Int × Int × Int × Int)) :=
  (rngR 0 a1).bind fun v1 => (n__law_mixed a0 v1).nx.bind fun v2 => (n__law_any v2.2 [0, 1, 2, 4, 6]).nx.bind fun v3 => (rngR 0 v3.1).bind fun v4 => (foldR v4 (v3.2, []) fun v6 v5 => (n__law_draw v6.1 a1).nx.bind fun v7 => (n__law_draw v7.2 a1).nx.bind fun v8 => (if (!(decide (v7.1 = v8.1))) = true then if (decide (v7.1 < v8.1)) = true then R.ok (true, v8.2) else (n__law_draw v8.2 3).nx.bind fun v9 => R.ok ((decide (v9.1 = 0)), v9.2) else R.ok (false, v8.2)).bind fun v10 => if v10.1 = true then (idxR v2.1 v7.1).bind fun v11 => (idxR v2.1 v8.1).bind fun v12 => (snocR v6.2 (v11, v12)).bind fun v13 => R.ok (v10.2, v13) else R.ok (v10.2, v6.2)).bind fun v14 => (setPR v14.2).bind fun v15 => R.ok (v15, v14.1)
def n__law_orders (a0 : Int) : R (List (List Int)) :=
  R.lt [[]] fun v1 => (rngR 0 a0).bind fun v2 => (foldR v2 v1 fun v4 v3 => (foldR v4 [] fun v6 v5 => (rngR 0 a0).bind fun v7 => (mapR (List.filter (fun v8 => (!(decide (v8 ∈ v5)))) v7) fun v8 => (catR v5 [v8]).bind fun v9 => R.ok v9).bind fun v11 => (catR v6 v11).bind fun v12 => R.ok v12).bind fun v13 => R.ok v13).bind fun v14 => R.ok v14
def n__law_keeps (a0 : (List Int)) (a1 : (List (Int × Int))) : R Bool :=
  (mapR a1 fun v5 => (indexR a0 v5.1).bind fun v6 => (indexR a0 v5.2).bind fun v7 => R.ok (decide (v6 < v7))).bind fun v9 => R.ok (v9.all id)
def n__law_together (a0 : Int) (a1 : (List (List Int))) (a2 : (List Int)) : R Bool :=
  (rngR 0 a0).bind fun v1 => (loopR (β := Bool) v1 () fun v3 v2 => (mapSR (enumI a2) () fun v8 v7 => (idxR a1 v7.2).bind fun v9 => if (decide (v2 ∈ v9)) = true then R.ok (some v7.1, ()) else R.ok (none, ())).bind fun v10 => (if (decide (0 < ((v10.1.length : Nat) : Int))) = true then (idxR v10.1 (-1)).bind fun v11 => (idxR v10.1 0).bind fun v12 => R.ok (!(decide (((v11 - v12) + 1) = ((v10.1.length : Nat) : Int)))) else R.ok false).bind fun v13 => if v13 = true then R.ok (.rt false) else R.ok (.nx ())).bind fun lv14 => lv14.on (fun (v14 : Unit) => R.ok true) (fun (a0 : Bool) => R.ok a0)
def n__law_age_orders (a0 : Int) (a1 : (List (List Int))) (a2 : (List (Int × Int))) : R (List (List Int)) :=
  (n__law_orders ((a1.length : Nat) : Int)).bind fun v1 => (mapSR v1 () fun v3 v2 => ((n__law_keeps v2 a2).bind fun v4 => if v4 = true then (n__law_together a0 a1 v2).bind fun v5 => R.ok v5 else R.ok false).bind fun v6 => if v6 = true then R.ok (some v2, ()) else R.ok (none, ())).bind fun v7 => R.ok v7.1
def n__law_sure (a0 : Int) (a1 : (List (List Int))) : R (List (Int × Int)) :=
  (rngR 0 a0).bind fun v1 => (foldR v1 [] fun v3 v2 => (rngR 0 a0).bind fun v4 => (foldR v4 v3 fun v6 v5 => (if (!(decide (v2 = v5))) = true then (mapR a1 fun v15 => (indexR v15 v2).bind fun v16 => (indexR v15 v5).bind fun v17 => R.ok (decide (v16 < v17))).bind fun v19 => R.ok (v19.all id) else R.ok false).bind fun v20 => if v20 = true then (snocR v6 (v2, v5)).bind fun v21 => R.ok v21 else R.ok v6).bind fun v22 => R.ok v22).bind fun v23 => R.ok v23
def n__law_is_right (a0 : ((List Int) × Int × Int × Int × Int)) (a1 : Int) (a2 : (List (List Int))) (a3 : (List (Int × Int))) : R (Bool × ((List Int) × Int × Int × Int × Int)) :=
  (n__law_age_orders a1 a2 a3).bind fun v1 => (n__law_sure ((a2.length : Nat) : Int) v1).bind fun v2 => ((n_age_orders a1 a2 a3).bind fun v3 => (n_surely_ahead a1 a2 a3).bind fun v4 => (n__law_same (v3, v4) (v1, v2)).bind fun v5 => R.ok (!v5)).bind fun v6 => if v6 = true then R.ok (false, a0) else R.lt (sortE (encP encI encI) (List.map (fun v7 => (v7.2, v7.1)) a3)) fun v8 => (n_age_orders a1 a2 v8).bind fun v9 => if (!(decide (v9 = (sortE (encT encI) (List.map (fun v10 => (v10.reverse)) v1))))) = true then R.ok (false, a0) else (if (decide (0 < ((v1.length : Nat) : Int))) = true then (n_age_orders a1 a2 v2).bind fun v11 => R.ok (!(decide (v11 = v1))) else R.ok false).bind fun v12 => if v12 = true then R.ok (false, a0) else (n__law_draw a0 ((a2.length : Nat) : Int)).nx.bind fun v13 => (n__law_draw v13.2 ((a2.length : Nat) : Int)).nx.bind fun v14 => (catR a3 (if (!(decide (v13.1 = v14.1))) = true then [(v13.1, v14.1)] else [])).bind fun v15 => (setPR v15).bind fun v16 => (n_age_orders a1 a2 v16).bind fun v17 => (mapSR v1 () fun v23 v22 => (if (decide (v13.1 = v14.1)) = true then R.ok true else (indexR v22 v13.1).bind fun v24 => (indexR v22 v14.1).bind fun v25 => R.ok (decide (v24 < v25))).bind fun v26 => if v26 = true then R.ok (some v22, ()) else R.ok (none, ())).bind fun v27 => R.ok ((decide (v17 = v27.1)), v14.2)
def n_law (a0 : (List Int)) : R Bool :=
  (n__law_hand a0).bind fun v1 => R.lt ([0], (0, 1), [1]) fun v2 => ((n_age_orders 2 [v2.1, [v2.2.1.1, v2.2.1.2], v2.2.2] []).bind fun v3 => (n_surely_ahead 2 [v2.1, [v2.2.1.1, v2.2.1.2], v2.2.2] [(0, 2)]).bind fun v4 => (n__law_same (v3, v4) ([[0, 1, 2], [2, 1, 0]], [(0, 1), (0, 2), (1, 2)])).bind fun v5 => R.ok (!v5)).bind fun v6 => if v6 = true then R.ok false else ((n_age_orders 1 [[0], [], [0]] [(1, 0)]).bind fun v7 => (n_surely_ahead 1 [[], []] [(0, 1), (1, 0)]).bind fun v8 => (n__law_same (v7, v8) ([[1, 0, 2], [1, 2, 0]], [(0, 1), (1, 0)])).bind fun v9 => R.ok (!v9)).bind fun v10 => if v10 = true then R.ok false else (rngR 0 5).bind fun v11 => (loopR (β := Bool) v11 v1 fun v13 v12 => (n__law_finds v13 5).nx.bind fun v14 => ((n__law_told_pairs v14.2 ((v14.1.2.length : Nat) : Int)).nx.bind fun v15 => (n__law_is_right v15.2 v14.1.1 v14.1.2 v15.1).nx.bind fun v16 => R.ok ((!v16.1), v16.2)).bind fun v17 => if v17.1 = true then R.ok (.rt false) else R.ok (.nx v17.2)).bind fun lv18 => lv18.on (fun (v18 : ((List Int) × Int × Int × Int × Int)) => R.ok true) (fun (a0 : Bool) => R.ok a0)
end SW

namespace SW
open PySem
/-! ### orders: what is checked case by case -/
abbrev ords (N : Int) : List (List Int) := pkO N N.toNat
def stepsA (P : List Int → Int → Bool) (o : List Int) : Bool := (List.range o.length).all fun k => P (o.take k) (o.getD k 0)
def stS (S : List Int) (p : List Int) (x : Int) : Bool := !decide (x ∈ S) || (p.all (fun y => !decide (y ∈ S)) || decide (p.getLastD 0 ∈ S))
def stP (q : Int × Int) (p : List Int) (x : Int) : Bool := !(decide (q.2 = x) && !decide (q.1 ∈ p))
def posS (o S : List Int) : List Int := ((enumI o).filter fun v => decide (v.2 ∈ S)).map (·.1)
def conR (o S : List Int) : R Bool := if decide (0 < (((posS o S).length : Nat) : Int)) = true then (idxR (posS o S) (-1)).bind fun v11 => (idxR (posS o S) 0).bind fun v12 => R.ok (!(decide (((v11 - v12) + 1) = (((posS o S).length : Nat) : Int)))) else R.ok false
def con (o S : List Int) : Bool := (conR o S).is false
def ixI (o : List Int) (a : Int) : Int := (indexR o a).get 0
def bef (o : List Int) (q : Int × Int) : Bool := decide (ixI o q.1 < ixI o q.2)
def chkA (N : Int) : Bool :=
  (n__law_orders N).is (ords N) && decide ((ords N).length ≤ 120) && decide (List.Pairwise (fun a b => lexI a b = true) (ords N)) && decide (0 < (ords N).length)
def chkB (N : Int) : Bool := (ords N).all fun o => o.isPerm (rng N) && decide (o.reverse ∈ ords N) &&
  ((subs (rng N)).all fun S => (conR o S).good && (con o S == stepsA (stS S) o) && (con o.reverse S == con o S)) &&
  ((rng N).all fun a => (indexR o a).good && (rng N).all fun b => decide (a = b) || ((bef o (a, b) == stepsA (stP (a, b)) o) && (bef o.reverse (b, a) == bef o (a, b))))
theorem five {P : Int → Bool} (a : P 1 = true) (b : P 2 = true) (c : P 3 = true) (d : P 4 = true) (e : P 5 = true) (m : Int) (h0 : 1 ≤ m) (h1 : m ≤ 5) : P m = true := by
  have : m = 1 ∨ m = 2 ∨ m = 3 ∨ m = 4 ∨ m = 5 := by omega
  rcases this with rfl | rfl | rfl | rfl | rfl <;> assumption
theorem chkA_all : ∀ m : Int, 1 ≤ m → m ≤ 5 → chkA m = true := five (by decide +kernel) (by decide +kernel) (by decide +kernel) (by decide +kernel) (by decide +kernel)
theorem chkB_all : ∀ m : Int, 1 ≤ m → m ≤ 5 → chkB m = true := five (by decide +kernel) (by decide +kernel) (by decide +kernel) (by decide +kernel) (by decide +kernel)
end SW

namespace SW
open PySem
/-! ### orders by age: by a stack -/
def rowF (F : List (List Int)) (x : Int) : List Int := F.getD x.toNat []
def fS (F : List (List Int)) (w : Int) : List Int := (rng F.length).filter fun x => decide (w ∈ rowF F x)
def okW (F : List (List Int)) (p : List Int) (x : Int) : Bool := (rowF F x).all fun w => stS (fS F w) p x
def okT (T : List (Int × Int)) (p : List Int) (x : Int) : Bool := T.all fun q => stP q p x
def okS (F : List (List Int)) (T : List (Int × Int)) (p : List Int) (x : Int) : Bool := okW F p x && okT T p x
section
variable {F : List (List Int)} {T : List (Int × Int)}
def InO (F : List (List Int)) (o : List Int) : Prop := o.length ≤ F.length ∧ ∀ x ∈ o, x ∈ rng F.length
theorem idx_row {x : Int} (h : x ∈ rng F.length) : idxR F x = .ok (rowF F x) := by
  obtain ⟨h0, h1⟩ := rng_mem.mp h
  rw [idxR_ok h0 h1]
  unfold rowF
  rw [List.getD_eq_getElem?_getD, List.getElem?_eq_getElem (by omega)]; rfl
theorem fS_mem {w x : Int} : x ∈ fS F w ↔ x ∈ rng F.length ∧ w ∈ rowF F x := by
  unfold fS; rw [List.mem_filter, decide_eq_true_eq]
theorem can_ok {o : List Int} (ho : InO F o) {x : Int} (hx : x ∈ rng F.length) : n_can_follow F o x = .ok (okW F o x) := by
  unfold n_can_follow
  by_cases h0 : o = []
  · subst h0
    rw [if_pos (by simp)]
    refine congrArg R.ok ?_
    symm
    unfold okW
    rw [List.all_eq_true]
    intro w _
    simp [stS]
  · have hl := List.length_pos_iff.mpr h0
    rw [if_neg (by simp [h0])]
    have hlast : idxR o (-1) = .ok (o.getLastD 0) := by
      rw [idxR_last h0, List.getLastD_eq_getLast?, List.getLast?_eq_some_getLast h0]; rfl
    have hlm : o.getLastD 0 ∈ o := by
      rw [List.getLastD_eq_getLast?, List.getLast?_eq_some_getLast h0]
      exact List.getLast_mem h0
    rw [hlast, R.bind_ok, idx_row (ho.2 _ hlm), R.bind_ok, idx_row hx, R.bind_ok]
    rw [mapR_ok (G := fun w => !decide (w ∈ rowF F (o.getLastD 0)) && o.any fun y => decide (w ∈ rowF F y)) fun w hw => ?_, R.bind_ok, R.bind_ok]
    · refine congrArg R.ok ?_
      unfold okW
      rw [List.any_map, Bool.eq_iff_iff]
      simp only [Bool.not_eq_true', List.any_eq_false, List.all_eq_true, Function.comp_apply, id, Bool.and_eq_true, decide_eq_true_eq, decide_eq_false_iff_not, List.any_eq_true, not_and, not_exists]
      constructor
      · intro h w hw
        have hk := h w hw
        unfold stS
        simp only [Bool.or_eq_true, Bool.not_eq_true', decide_eq_false_iff_not, decide_eq_true_eq, List.all_eq_true]
        by_cases c : w ∈ rowF F (o.getLastD 0)
        · exact .inr (.inr (fS_mem.mpr ⟨ho.2 _ hlm, c⟩))
        · exact .inr (.inl fun y hy z => hk c y hy (fS_mem.mp z).2)
      · intro h w hw c y hy z
        have hk := h w hw
        unfold stS at hk
        simp only [Bool.or_eq_true, Bool.not_eq_true', decide_eq_false_iff_not, decide_eq_true_eq, List.all_eq_true] at hk
        rcases hk with k | k | k
        · exact k (fS_mem.mpr ⟨hx, hw⟩)
        · exact k y hy (fS_mem.mpr ⟨ho.2 y hy, z⟩)
        · exact c (fS_mem.mp k).2
    · by_cases c : w ∈ rowF F (o.getLastD 0)
      · rw [decide_eq_true c, if_neg (by decide)]; rfl
      · rw [decide_eq_false c, if_pos (by decide), mapR_ok (G := fun y => decide (w ∈ rowF F y)) fun y hy => by rw [idx_row (ho.2 y hy)]; rfl, R.bind_ok, R.bind_ok, List.any_map]; rfl
def extP (F : List (List Int)) (T : List (Int × Int)) (o : List Int) : List (List Int) := ((rng F.length).filter fun x => !decide (x ∈ o) && okS F T o x).map fun x => o ++ [x]
def lv (F : List (List Int)) (T : List (Int × Int)) : Nat → List Int → List (List Int)
  | 0, o => [o]
  | r + 1, o => (extP F T o).flatMap (lv F T r)
def lvO (F : List (List Int)) (T : List (Int × Int)) (o : List Int) : List (List Int) := lv F T (F.length - o.length) o
def cst : Nat → Nat
  | 0 => 1
  | r + 1 => 1 + 5 * cst r
def cstW (F : List (List Int)) (W : List (List Int)) : Nat := (W.map fun o => cst (F.length - o.length)).sum
theorem cst_pos : ∀ r, 1 ≤ cst r
  | 0 => Nat.le_refl _
  | r + 1 => by simp only [cst]; omega
theorem len_cst (W : List (List Int)) : W.length ≤ cstW F W := by
  unfold cstW
  induction W with
  | nil => exact Nat.le_refl _
  | cons o W ih =>
    simp only [List.map_cons, List.sum_cons, List.length_cons]
    have := cst_pos (F.length - o.length)
    omega
theorem cst_ext {o : List Int} (h5 : F.length ≤ 5) (hl : o.length < F.length) : cstW F (extP F T o).reverse + 1 ≤ cst (F.length - o.length) := by
  have e : F.length - o.length = (F.length - o.length - 1) + 1 := by omega
  rw [e]
  simp only [cst]
  have h1 : ∀ o2 ∈ (extP F T o).reverse, o2.length = o.length + 1 := fun o2 h2 => by
    rw [List.mem_reverse] at h2
    obtain ⟨x, _, rfl⟩ := List.mem_map.mp h2
    simp
  have h2 : (extP F T o).reverse.length ≤ 5 := by
    rw [List.length_reverse]
    unfold extP
    rw [List.length_map]
    refine Nat.le_trans (List.length_filter_le _ _) ?_
    rw [length_rng]; omega
  generalize (extP F T o).reverse = Z at h1 h2
  have : cstW F Z = Z.length * cst (F.length - o.length - 1) := by
    clear h2
    induction Z with
    | nil => simp [cstW]
    | cons z Z ih =>
      have hz := h1 z (List.mem_cons_self ..)
      unfold cstW at ih ⊢
      simp only [List.map_cons, List.sum_cons, List.length_cons]
      rw [ih fun y hy => h1 y (List.mem_cons_of_mem _ hy), hz, show F.length - (o.length + 1) = F.length - o.length - 1 by omega, Nat.succ_mul]
      omega
  rw [this]
  have := Nat.mul_le_mul_right (cst (F.length - o.length - 1)) h2
  omega
def bodyD (F : List (List Int)) (T : List (Int × Int)) (v1 : List (List Int) × List (List Int)) : R (List (List Int) × List (List Int)) := (popR v1.2).bind fun v2 => if (decide (((v2.2.length : Nat) : Int) = ((F.length : Nat) : Int))) = true then (snocR v1.1 v2.2).bind fun v3 => R.ok (v3, v2.1) else (rngR 0 ((F.length : Nat) : Int)).bind fun v4 => (mapSR v4 () fun v6 v5 => (if (!(decide (v5 ∈ v2.2))) = true then (n_can_follow F v2.2 v5).bind fun v7 => R.ok v7 else R.ok false).bind fun v8 => if v8 = true then R.ok (some v5, ()) else R.ok (none, ())).bind fun v9 => R.lt (List.map (fun v10 => v10) (List.filter (fun v10 => (!((List.map (fun v11 => ((decide (v11.2 = v10)) && (!(decide (v11.1 ∈ v2.2))))) T).any id))) v9.1)) fun v12 => (mapR (v12.reverse) fun v16 => (catR v2.2 [v16]).bind fun v17 => R.ok v17).bind fun v19 => (catR v2.1 v19).bind fun v20 => R.ok (v1.1, v20)
theorem body_full {found W : List (List Int)} {o : List Int} (hl : o.length = F.length) (hf : found.length < 1000000) : bodyD F T (found, W ++ [o]) = .ok (found ++ [o], W) := by
  unfold bodyD
  have e : popR (W ++ [o]) = .ok (W, o) := by unfold popR; simp
  rw [e, R.bind_ok, if_pos (by simp [hl]), snocR_ok hf]; rfl
theorem body_ext {found W : List (List Int)} {o : List Int} (ho : InO F o) (hl : o.length < F.length) (h5 : F.length ≤ 5) (hw : W.length ≤ 900000) : bodyD F T (found, W ++ [o]) = .ok (found, W ++ (extP F T o).reverse) := by
  unfold bodyD
  have e : popR (W ++ [o]) = .ok (W, o) := by unfold popR; simp
  rw [e, R.bind_ok, if_neg (by simp; omega), rngR_0 (by omega) (by omega), R.bind_ok]
  rw [mapSR_test (f := fun x => if (!(decide (x ∈ o))) = true then (n_can_follow F o x).bind fun v7 => R.ok v7 else R.ok false) (p := fun x => !decide (x ∈ o) && okW F o x) fun x hx => by
    by_cases c : x ∈ o
    · simp [c]
    · rw [if_pos (by simp [c]), can_ok ho hx]; simp [c], R.bind_ok, R.lt_eq]
  dsimp only
  rw [List.map_id', List.filter_filter]
  have e2 : (rng F.length).filter (fun a => (!((List.map (fun v11 : Int × Int => ((decide (v11.2 = a)) && (!(decide (v11.1 ∈ o))))) T).any id)) && (!decide (a ∈ o) && okW F o a)) = (rng F.length).filter fun x => !decide (x ∈ o) && okS F T o x := by
    apply List.filter_congr
    intro x _
    have : (!((List.map (fun v11 : Int × Int => ((decide (v11.2 = x)) && (!(decide (v11.1 ∈ o))))) T).any id)) = okT T o x := by
      unfold okT stP
      rw [List.any_map, List.not_any_eq_all_not]; rfl
    rw [this]
    unfold okS
    cases okT T o x <;> cases okW F o x <;> cases decide (x ∈ o) <;> rfl
  rw [e2, mapR_ok (G := fun x => o ++ [x]) fun x _ => by rw [catR_ok (by simp; omega)]; rfl, R.bind_ok]
  have e3 : (extP F T o).reverse = (((rng F.length).filter fun x => !decide (x ∈ o) && okS F T o x).reverse).map fun x => o ++ [x] := by unfold extP; rw [List.map_reverse]
  rw [← e3, catR_ok]
  · rfl
  · have : (extP F T o).reverse.length ≤ 5 := by
      rw [List.length_reverse]
      unfold extP
      rw [List.length_map]
      refine Nat.le_trans (List.length_filter_le _ _) ?_
      rw [length_rng]; omega
    omega
theorem extP_in {o : List Int} (ho : InO F o) (hl : o.length < F.length) : ∀ o2 ∈ extP F T o, InO F o2 := fun o2 h2 => by
  obtain ⟨x, hx, rfl⟩ := List.mem_map.mp h2
  have hx' := (List.mem_filter.mp hx).1
  refine ⟨by simp; omega, fun y hy => ?_⟩
  rcases List.mem_append.mp hy with z | z
  · exact ho.2 y z
  · simp only [List.mem_singleton] at z; subst z; exact hx'
theorem lvO_full {o : List Int} (hl : o.length = F.length) : lvO F T o = [o] := by unfold lvO; rw [hl, Nat.sub_self]; rfl
theorem lvO_ext {o : List Int} (hl : o.length < F.length) : lvO F T o = (extP F T o).flatMap (lvO F T) := by
  unfold lvO
  rw [show F.length - o.length = (F.length - o.length - 1) + 1 by omega]
  show (extP F T o).flatMap (lv F T (F.length - o.length - 1)) = _
  rw [List.flatMap_def, List.flatMap_def]
  congr 1
  apply List.map_congr_left
  intro o2 h2
  obtain ⟨x, _, rfl⟩ := List.mem_map.mp h2
  rw [show F.length - (o ++ [x]).length = F.length - o.length - 1 by simp; omega]
theorem dfs (h5 : F.length ≤ 5) : ∀ (c fuel : Nat) (found W : List (List Int)), cstW F W ≤ c → c < fuel → c ≤ 5000 → (∀ o ∈ W, InO F o) → found.length + (W.reverse.flatMap (lvO F T)).length ≤ 3000 →
    whR fuel (fun v1 => R.ok ((decide (0 < ((v1.2.length : Nat) : Int))) && (decide (((v1.1.length : Nat) : Int) < 3001)))) (bodyD F T) (found, W) = .ok (found ++ W.reverse.flatMap (lvO F T), [])
  | c, 0, _, _, _, hf, _, _, _ => absurd hf (by omega)
  | c, fuel + 1, found, W, hc, hf, hc5, hW, hl => by
    rcases List.eq_nil_or_concat W with rfl | ⟨W0, o, rfl⟩
    · simp [whR]
    · rw [List.concat_eq_append] at *
      have ho := hW o (by simp)
      have hlen := len_cst (F := F) (W0 ++ [o])
      have hcw : cstW F (W0 ++ [o]) = cstW F W0 + cst (F.length - o.length) := by simp [cstW]
      have hpos := cst_pos (F.length - o.length)
      have hW0 : ∀ o ∈ W0, InO F o := fun o2 h2 => hW o2 (List.mem_append_left _ h2)
      rw [List.reverse_append, List.reverse_singleton, List.singleton_append, List.flatMap_cons] at *
      simp only [whR]
      rw [R.bind_ok, if_pos (by simp only [List.length_append] at *; simp; omega)]
      by_cases q : o.length = F.length
      · rw [lvO_full q] at *
        rw [body_full q (by simp at hl; omega), R.bind_ok]
        obtain ⟨c, rfl⟩ : ∃ j, c = j + 1 := ⟨c - 1, by omega⟩
        rw [dfs h5 c fuel (found ++ [o]) W0 (by omega) (by omega) (by omega) hW0 (by simp only [List.length_append, List.length_singleton] at *; omega)]
        simp
      · have hlt : o.length < F.length := by have := ho.1; omega
        have he := cst_ext (T := T) h5 hlt
        rw [body_ext ho hlt h5 (by simp only [List.length_append, List.length_singleton] at hlen; omega), R.bind_ok]
        obtain ⟨c, rfl⟩ : ∃ j, c = j + 1 := ⟨c - 1, by omega⟩
        have hrev : (W0 ++ (extP F T o).reverse).reverse.flatMap (lvO F T) = lvO F T o ++ W0.reverse.flatMap (lvO F T) := by
          rw [List.reverse_append, List.reverse_reverse, List.flatMap_append, ← lvO_ext hlt]
        rw [dfs h5 c fuel found _ (by simp only [cstW, List.map_append, List.sum_append] at *; omega) (by omega) (by omega) (fun o2 h2 => by
          rcases List.mem_append.mp h2 with z | z
          · exact hW0 o2 z
          · exact extP_in ho hlt o2 (List.mem_reverse.mp z)) (by rw [hrev]; exact hl), hrev]
/-! ### the same as all orders looked at -/
def exF (N : Int) : Nat → List Int → List (List Int)
  | 0, o => [o]
  | r + 1, o => (extO N o).flatMap (exF N r)
theorem exF_pk (N : Int) : ∀ (r k : Nat), (pkO N k).flatMap (exF N r) = pkO N (k + r)
  | 0, k => by
    show (pkO N k).flatMap (fun o => [o]) = pkO N k
    induction pkO N k with
    | nil => rfl
    | cons x xs ih => rw [List.flatMap_cons, ih]; rfl
  | r + 1, k => by
    show (pkO N k).flatMap (fun o => (extO N o).flatMap (exF N r)) = _
    rw [← List.flatMap_assoc]
    have := exF_pk N r (k + 1)
    rw [show k + (r + 1) = k + 1 + r by omega, ← this]; rfl
theorem exF_pre {N : Int} : ∀ {r : Nat} {o f : List Int}, f ∈ exF N r o → ∃ t, f = o ++ t ∧ t.length = r
  | 0, o, f, h => by simp only [exF, List.mem_singleton] at h; exact ⟨[], by simp [h], rfl⟩
  | r + 1, o, f, h => by
    simp only [exF, List.mem_flatMap, extO, List.mem_map] at h
    obtain ⟨o2, ⟨x, _, rfl⟩, h2⟩ := h
    obtain ⟨t, rfl, ht⟩ := exF_pre h2
    exact ⟨x :: t, by simp, by simp [ht]⟩
def sfr (P : List Int → Int → Bool) (n : Nat) (f : List Int) : Bool := (List.range f.length).all fun k => decide (k < n) || P (f.take k) (f.getD k 0)
theorem lv_exF : ∀ (r : Nat) (o : List Int), lv F T r o = (exF F.length r o).filter (sfr (okS F T) o.length)
  | 0, o => by
    have : sfr (okS F T) o.length o = true := by
      unfold sfr
      rw [List.all_eq_true]
      intro k hk
      rw [decide_eq_true (List.mem_range.mp hk)]; rfl
    simp only [lv, exF, List.filter_cons_of_pos this, List.filter_nil]
  | r + 1, o => by
    show (extP F T o).flatMap (lv F T r) = (((extO F.length o).flatMap (exF F.length r))).filter _
    rw [List.filter_flatMap]
    unfold extP extO
    rw [List.flatMap_map, List.flatMap_map]
    have e : ((rng F.length).filter fun x => !decide (x ∈ o) && okS F T o x) = ((rng F.length).filter fun x => !decide (x ∈ o)).filter fun x => okS F T o x := by
      rw [List.filter_filter]
      apply List.filter_congr
      intro x _
      rw [Bool.and_comm]
    have key : ∀ x, ∀ f ∈ exF F.length r (o ++ [x]), sfr (okS F T) o.length f = (okS F T o x && sfr (okS F T) (o ++ [x]).length f) := fun x f hf => by
      obtain ⟨t, rfl, ht⟩ := exF_pre hf
      have h1 : ((o ++ [x]) ++ t).take o.length = o := by simp
      have h2 : ((o ++ [x]) ++ t).getD o.length 0 = x := by simp [List.getD_eq_getElem?_getD]
      unfold sfr
      rw [Bool.eq_iff_iff, Bool.and_eq_true, List.all_eq_true, List.all_eq_true]
      simp only [List.mem_range, Bool.or_eq_true, decide_eq_true_eq]
      constructor
      · intro h
        refine ⟨?_, fun k hk => ?_⟩
        · have := h o.length (by simp)
          rw [h1, h2] at this
          rcases this with z | z
          · omega
          · exact z
        · rcases h k hk with z | z
          · left; simp; omega
          · exact .inr z
      · rintro ⟨h3, h4⟩ k hk
        by_cases c : k = o.length
        · subst c
          rw [h1, h2]; exact .inr h3
        · rcases h4 k hk with z | z
          · left; simp at z; omega
          · exact .inr z
    rw [e, ← flatMap_some (q := fun x => okS F T o x) (g := fun x => (exF F.length r (o ++ [x])).filter (sfr (okS F T) o.length)) (fun x _ hx => List.filter_eq_nil_iff.mpr fun f hf => by
      rw [key x f hf, hx]; simp)]
    rw [List.flatMap_def, List.flatMap_def]
    congr 1
    apply List.map_congr_left
    intro x hx
    have hok := (List.mem_filter.mp hx).2
    rw [lv_exF r (o ++ [x])]
    apply List.filter_congr
    intro f hf
    rw [key x f hf, hok, Bool.true_and]
/-- the orders that are let -/
def okA (F : List (List Int)) (T : List (Int × Int)) (o : List Int) : Bool := stepsA (okS F T) o
theorem lv_ords : lv F T F.length [] = (ords F.length).filter (okA F T) := by
  rw [lv_exF]
  have h := exF_pk (F.length : Int) F.length 0
  rw [Nat.zero_add] at h
  have h2 : exF (F.length : Int) F.length [] = ords F.length := by
    rw [show ords (F.length : Int) = pkO F.length F.length from by unfold ords; rw [Int.toNat_natCast], ← h]
    simp [pkO]
  rw [h2]
  apply List.filter_congr
  intro f _
  unfold sfr okA stepsA
  congr 1
theorem by_age_ok (h5 : F.length ≤ 5) (hlen : (ords F.length).length ≤ 120) : n_orders_by_age F T 3001 = .ok ((ords F.length).filter (okA F T)) := by
  have hc : cstW F [[]] ≤ 3906 := by
    have : F.length = 0 ∨ F.length = 1 ∨ F.length = 2 ∨ F.length = 3 ∨ F.length = 4 ∨ F.length = 5 := by omega
    simp only [cstW, List.map_cons, List.map_nil, List.sum_cons, List.sum_nil, List.length_nil, Nat.sub_zero]
    rcases this with h | h | h | h | h | h <;> rw [h] <;> decide
  have hr : ([[]] : List (List Int)).reverse.flatMap (lvO F T) = (ords F.length).filter (okA F T) := by
    rw [← lv_ords]
    simp [lvO]
  have := dfs (T := T) h5 3906 1000000 [] [[]] hc (by decide) (by decide) (fun o ho => by
    simp only [List.mem_singleton] at ho
    subst ho
    exact ⟨Nat.zero_le _, fun _ z => by cases z⟩) (by
    rw [hr]
    have := List.length_filter_le (okA F T) (ords F.length)
    simp only [List.length_nil]; omega)
  unfold n_orders_by_age
  rw [trn0]
  show (whR 1000000 (fun v1 => R.ok ((decide (0 < ((v1.2.length : Nat) : Int))) && (decide (((v1.1.length : Nat) : Int) < 3001)))) (bodyD F T) ([], [[]])).bind (fun v21 => R.ok v21.1) = _
  rw [this, hr]; rfl
end
end SW

namespace SW
open PySem
def chkC (m : Int) : Bool := (subs (rng m)).all fun row => (n_is_lot m row).is true
theorem chkC_all : ∀ m : Int, 1 ≤ m → m ≤ 5 → chkC m = true := five (by decide +kernel) (by decide +kernel) (by decide +kernel) (by decide +kernel) (by decide +kernel)
structure Chk (N : Int) : Prop where
  od : n__law_orders N = .ok (ords N)
  ln : (ords N).length ≤ 120
  pw : List.Pairwise (fun a b => lexI a b = true) (ords N)
  pm : ∀ o ∈ ords N, List.Perm o (rng N)
  rv : ∀ o ∈ ords N, o.reverse ∈ ords N
  cg : ∀ o ∈ ords N, ∀ S ∈ subs (rng N), conR o S = .ok (!con o S)
  cs : ∀ o ∈ ords N, ∀ S ∈ subs (rng N), con o S = stepsA (stS S) o
  cr : ∀ o ∈ ords N, ∀ S ∈ subs (rng N), con o.reverse S = con o S
  ig : ∀ o ∈ ords N, ∀ a ∈ rng N, indexR o a = .ok (ixI o a)
  bs : ∀ o ∈ ords N, ∀ a ∈ rng N, ∀ b ∈ rng N, a ≠ b → bef o (a, b) = stepsA (stP (a, b)) o
  br : ∀ o ∈ ords N, ∀ a ∈ rng N, ∀ b ∈ rng N, a ≠ b → bef o.reverse (b, a) = bef o (a, b)
theorem chk_ok {N : Int} (h0 : 1 ≤ N) (h1 : N ≤ 5) : Chk N := by
  have A := chkA_all N h0 h1
  have B := chkB_all N h0 h1
  unfold chkA at A
  unfold chkB at B
  simp only [Bool.and_eq_true, Bool.or_eq_true, List.all_eq_true, decide_eq_true_eq, beq_iff_eq] at A B
  obtain ⟨⟨⟨a1, a2⟩, a3⟩, a4⟩ := A
  exact {
    od := R.is_ok a1
    ln := a2
    pw := a3
    pm := fun o ho => List.isPerm_iff.mp (B o ho).1.1.1
    rv := fun o ho => (B o ho).1.1.2
    cg := fun o ho S hS => by
      have := R.good_ok false ((B o ho).1.2 S hS).1.1
      unfold con
      rw [this]
      cases (conR o S).get false <;> rfl
    cs := fun o ho S hS => ((B o ho).1.2 S hS).1.2
    cr := fun o ho S hS => ((B o ho).1.2 S hS).2
    ig := fun o ho a ha => R.good_ok _ ((B o ho).2 a ha).1
    bs := fun o ho a ha b hb hne => by
      rcases ((B o ho).2 a ha).2 b hb with z | z
      · exact absurd z hne
      · exact z.1
    br := fun o ho a ha b hb hne => by
      rcases ((B o ho).2 a ha).2 b hb with z | z
      · exact absurd z hne
      · exact z.2 }
structure TabF (w : Int) (F : List (List Int)) : Prop where
  w1 : 1 ≤ w
  w5 : w ≤ 5
  n1 : 1 ≤ F.length
  n5 : F.length ≤ 5
  rw : ∀ row ∈ F, row ∈ subs (rng w)
structure PrsOK (N : Int) (T : List (Int × Int)) : Prop where
  pw : List.Pairwise (fun a b => cdP a < cdP b) T
  ne : ∀ q ∈ T, q.1 ≠ q.2
  rg : ∀ q ∈ T, q.1 ∈ rng N ∧ q.2 ∈ rng N
theorem lteP (p q : Int × Int) : lte (encP encI encI) p q = if p.1 = q.1 then decide (p.2 < q.2) else decide (p.1 < q.1) := by
  simp only [lte, encP, vlt, vlts]
  by_cases e : p.1 = q.1
  · have : veq (encI p.1) (encI q.1) = true := by simp [encI, veq, e]
    rw [if_pos this, if_pos e]
    by_cases e2 : p.2 = q.2
    · have : veq (encI p.2) (encI q.2) = true := by simp [encI, veq, e2]
      rw [if_pos this, decide_eq_false (by omega)]
    · have : veq (encI p.2) (encI q.2) = false := by simp [encI, veq, e2]
      rw [this, if_neg Bool.false_ne_true]
  · have : veq (encI p.1) (encI q.1) = false := by simp [encI, veq, e]
    rw [this, if_neg Bool.false_ne_true, if_neg e]
section
variable {w : Int} {F : List (List Int)} {T : List (Int × Int)} (B : TabF w F)
include B
theorem chkN : Chk F.length := chk_ok (by have := B.n1; omega) (by have := B.n5; omega)
theorem within_ok {x a b : Int} (h1 : a ≤ x) (h2 : x ≤ b) : n_is_within x a b = .ok true := by
  unfold n_is_within n_is_integer
  simp [h1, h2]
theorem finds_ok : n_check_finds w F = .ok () := by
  have hn : (1 ≤ ((F.length : Nat) : Int)) ∧ (((F.length : Nat) : Int) ≤ 8) := by have := B.n1; have := B.n5; omega
  have C := chkC_all w B.w1 B.w5
  unfold chkC at C
  rw [List.all_eq_true] at C
  unfold n_check_finds
  have hw5 := B.w5
  rw [within_ok B B.w1 (by omega)]
  simp only [R.bind_ok, Bool.not_true, Bool.false_eq_true, if_false]
  rw [if_neg (by simp [hn.1, hn.2]), mapR_ok (G := fun _ => true) fun row hr => by rw [R.is_ok (C row (B.rw row hr))]; rfl]
  simp
theorem told_ok (hT : PrsOK F.length T) (hl : T.length ≤ 100) : n_check_told w F T = .ok () := by
  have hn5 := B.n5
  unfold n_check_told
  rw [finds_ok B, R.bind_ok]
  have e1 : ∀ q ∈ T, n_is_told ((F.length : Nat) : Int) q = .ok true := fun q hq => by
    obtain ⟨h1, h2⟩ := hT.rg q hq
    have h1 := rng_mem.mp h1
    have h2 := rng_mem.mp h2
    have hne := hT.ne q hq
    unfold n_is_told
    rw [mapR_ok (G := fun _ => true) fun x hx => by
      simp only [List.mem_cons, List.not_mem_nil, or_false] at hx
      rw [within_ok B (by omega) (by omega)]; rfl]
    simp [hne]
  rw [mapR_ok (G := fun _ => true) fun q hq => by rw [e1 q hq]; rfl]
  simp only [R.bind_ok, List.all_map, Function.comp_def, id]
  rw [if_neg (by simp)]
  have hk : ∀ k ∈ rng2 0 (((T.length : Nat) : Int) - 1), ((idxR T k).bind fun v18 => (idxR T (k + 1)).bind fun v19 => R.ok (lte (encP encI encI) v18 v19)) = .ok true := fun k hk => by
    rw [rng2_0] at hk
    obtain ⟨k0, k1⟩ := rng_mem.mp hk
    rw [idxR_ok k0 (by omega), R.bind_ok, idxR_ok (by omega) (by omega), R.bind_ok]
    have := List.pairwise_iff_getElem.mp hT.pw k.toNat (k + 1).toNat (by omega) (by omega) (by omega)
    have r1 := hT.rg _ (List.getElem_mem (l := T) (n := k.toNat) (by omega))
    have r2 := hT.rg _ (List.getElem_mem (l := T) (n := (k + 1).toNat) (by omega))
    have r11 := rng_mem.mp r1.1
    have r12 := rng_mem.mp r1.2
    have r21 := rng_mem.mp r2.1
    have r22 := rng_mem.mp r2.2
    unfold cdP at this
    rw [lteP]
    split
    · exact congrArg R.ok (decide_eq_true (by omega))
    · exact congrArg R.ok (decide_eq_true (by omega))
  rw [rngR_ok (by omega) (by omega) (by omega) (by omega) (by omega), R.bind_ok, mapR_ok (G := fun _ => true) hk]
  simp
theorem age_ok (hT : PrsOK F.length T) (hl : T.length ≤ 100) : n_age_orders w F T = .ok ((ords F.length).filter (okA F T)) := by
  have C := chkN B
  unfold n_age_orders
  rw [told_ok B hT hl, R.bind_ok, show (3000 + 1 : Int) = 3001 from rfl, by_age_ok B.n5 C.ln, R.bind_ok, if_neg]
  have := List.length_filter_le (okA F T) (ords F.length)
  have := C.ln
  simp only [decide_eq_true_eq]; omega
theorem fS_subs (x : Int) : fS F x ∈ subs (rng F.length) := by
  unfold fS
  exact mem_subs List.filter_sublist
theorem keeps_ok (hT : PrsOK F.length T) {o : List Int} (ho : o ∈ ords F.length) : n__law_keeps o T = .ok (T.all (bef o)) := by
  have C := chkN B
  unfold n__law_keeps
  rw [mapR_ok (G := bef o) fun q hq => by
    obtain ⟨h1, h2⟩ := hT.rg q hq
    rw [C.ig o ho _ h1, R.bind_ok, C.ig o ho _ h2]; rfl, R.bind_ok, List.all_map]; rfl
theorem together_ok {o : List Int} (ho : o ∈ ords F.length) : n__law_together w F o = .ok ((rng w).all fun x => con o (fS F x)) := by
  have C := chkN B
  have hw := B.w5
  have hw1 := B.w1
  unfold n__law_together
  rw [rngR_0 (by omega) (by omega), R.bind_ok]
  have hp : ∀ x : Int, (mapSR (enumI o) () fun (v8 : Unit) v7 => (idxR F v7.2).bind fun v9 => if (decide (x ∈ v9)) = true then R.ok (some v7.1, ()) else R.ok (none, ())) = .ok (posS o (fS F x), ()) := fun x => by
    rw [mapSR_fm (G := fun v => if decide (v.2 ∈ fS F x) = true then some v.1 else none) fun v hv => by
      have hm := (C.pm o ho).mem_iff.mp (enumI_mem hv).1
      rw [idx_row hm, R.bind_ok]
      by_cases c : x ∈ rowF F v.2
      · rw [if_pos (decide_eq_true c), if_pos (decide_eq_true (fS_mem.mpr ⟨hm, c⟩))]
      · rw [if_neg (by simpa using c), if_neg (by simpa using fun z => c (fS_mem.mp z).2)]]
    refine congrArg (fun z => R.ok (z, ())) ?_
    unfold posS
    generalize enumI o = E
    induction E with
    | nil => rfl
    | cons v E ih =>
      by_cases c : v.2 ∈ fS F x
      · rw [List.filterMap_cons, List.filter_cons_of_pos (by simpa using c), if_pos (decide_eq_true c), List.map_cons, ih]
      · rw [List.filterMap_cons, List.filter_cons_of_neg (by simpa using c), if_neg (by simpa using c), ih]
  have key : ∀ xs : List Int, (loopR (β := Bool) xs () fun v3 v2 => (mapSR (enumI o) () fun (v8 : Unit) v7 => (idxR F v7.2).bind fun v9 => if (decide (v2 ∈ v9)) = true then R.ok (some v7.1, ()) else R.ok (none, ())).bind fun v10 => (if (decide (0 < ((v10.1.length : Nat) : Int))) = true then (idxR v10.1 (-1)).bind fun v11 => (idxR v10.1 0).bind fun v12 => R.ok (!(decide (((v11 - v12) + 1) = ((v10.1.length : Nat) : Int)))) else R.ok false).bind fun v13 => if v13 = true then R.ok (.rt false) else R.ok (.nx ())) = .ok (if xs.all (fun x => con o (fS F x)) = true then .nx () else .rt false) := fun xs => by
    induction xs with
    | nil => rfl
    | cons x xs ih =>
      simp only [loopR]
      rw [hp x, R.bind_ok]
      have := C.cg o ho (fS F x) (fS_subs B x)
      unfold conR at this
      rw [this, R.bind_ok]
      cases q : con o (fS F x) with
      | true => simp only [Bool.not_true, Bool.false_eq_true, if_false, R.bind_ok, List.all_cons, q, Bool.true_and]; exact ih
      | false => simp [q]
  rw [key, R.bind_ok]
  cases (rng w).all fun x => con o (fS F x) <;> rfl
theorem stepsA_iff {P : List Int → Int → Bool} {o : List Int} : stepsA P o = true ↔ ∀ k, k < o.length → P (o.take k) (o.getD k 0) = true := by
  unfold stepsA
  rw [List.all_eq_true]
  simp only [List.mem_range]
theorem okA_eq (hT : PrsOK F.length T) {o : List Int} (ho : o ∈ ords F.length) : okA F T o = (T.all (bef o) && (rng w).all fun x => con o (fS F x)) := by
  have C := chkN B
  have hx : ∀ k, k < o.length → o.getD k 0 ∈ rng F.length := fun k hk => by
    refine (C.pm o ho).mem_iff.mp ?_
    rw [List.getD_eq_getElem?_getD, List.getElem?_eq_getElem hk]; exact List.getElem_mem hk
  unfold okA
  rw [Bool.eq_iff_iff, stepsA_iff B, Bool.and_eq_true, List.all_eq_true, List.all_eq_true]
  constructor
  · intro h
    refine ⟨fun q hq => ?_, fun x hxw => ?_⟩
    · obtain ⟨h1, h2⟩ := hT.rg q hq
      rw [show q = (q.1, q.2) from rfl, C.bs o ho q.1 h1 q.2 h2 (hT.ne q hq), stepsA_iff B]
      intro k hk
      have := h k hk
      unfold okS okT at this
      rw [Bool.and_eq_true, List.all_eq_true] at this
      exact this.2 q hq
    · rw [C.cs o ho _ (fS_subs B x), stepsA_iff B]
      intro k hk
      have := h k hk
      unfold okS okW at this
      rw [Bool.and_eq_true, List.all_eq_true] at this
      by_cases c : x ∈ rowF F (o.getD k 0)
      · exact this.1 x c
      · unfold stS
        rw [decide_eq_false fun z => c (fS_mem.mp z).2]; rfl
  · rintro ⟨h1, h2⟩ k hk
    unfold okS okW okT
    rw [Bool.and_eq_true, List.all_eq_true, List.all_eq_true]
    constructor
    · intro x hxr
      have hxw : x ∈ rng w := by
        have hk' := rng_mem.mp (hx k hk)
        have : rowF F (o.getD k 0) ∈ F := by
          unfold rowF
          rw [List.getD_eq_getElem?_getD (l := F), List.getElem?_eq_getElem (by omega)]
          exact List.getElem_mem _
        exact (subs_sub (B.rw _ this)).subset hxr
      have := h2 x hxw
      rw [C.cs o ho _ (fS_subs B x), stepsA_iff B] at this
      exact this k hk
    · intro q hq
      obtain ⟨g1, g2⟩ := hT.rg q hq
      have := h1 q hq
      rw [show q = (q.1, q.2) from rfl, C.bs o ho q.1 g1 q.2 g2 (hT.ne q hq), stepsA_iff B] at this
      exact this k hk
theorem law_age_ok (hT : PrsOK F.length T) : n__law_age_orders w F T = .ok ((ords F.length).filter (okA F T)) := by
  have C := chkN B
  unfold n__law_age_orders
  rw [C.od, R.bind_ok, mapSR_test (f := fun o => (n__law_keeps o T).bind fun v4 => if v4 = true then (n__law_together w F o).bind fun v5 => R.ok v5 else R.ok false) (p := okA F T) fun o ho => by
    rw [keeps_ok B hT ho, R.bind_ok, together_ok B ho, okA_eq B hT ho]
    cases T.all (bef o) <;> rfl]
  rfl
end
end SW

namespace SW
open PySem
/-! ### what is sure -/
def sureA (N : Int) (O : List (List Int)) (a : Int) : List (Int × Int) := ((rng N).filter fun b => !decide (a = b) && O.all fun o => bef o (a, b)).map fun b => (a, b)
def sureL (N : Int) (O : List (List Int)) : List (Int × Int) := (rng N).flatMap (sureA N O)
theorem sureA_len {N : Int} (O : List (List Int)) (a : Int) : (sureA N O a).length ≤ N.toNat := by
  unfold sureA
  rw [List.length_map]
  exact Nat.le_trans (List.length_filter_le _ _) (by rw [length_rng]; exact Nat.le_refl _)
theorem sure_mem {N : Int} {O : List (List Int)} {q : Int × Int} : q ∈ sureL N O ↔ (q.1 ∈ rng N ∧ q.2 ∈ rng N) ∧ q.1 ≠ q.2 ∧ ∀ o ∈ O, bef o q = true := by
  unfold sureL sureA
  simp only [List.mem_flatMap, List.mem_map, List.mem_filter, Bool.and_eq_true, Bool.not_eq_true', decide_eq_false_iff_not, List.all_eq_true]
  constructor
  · rintro ⟨a, ha, b, ⟨hb, hne, h⟩, rfl⟩
    exact ⟨⟨ha, hb⟩, hne, h⟩
  · rintro ⟨⟨ha, hb⟩, hne, h⟩
    exact ⟨q.1, ha, q.2, ⟨hb, hne, h⟩, rfl⟩
theorem sure_pw {N : Int} (h5 : N ≤ 5) (O : List (List Int)) : List.Pairwise (fun a b => cdP a < cdP b) (sureL N O) := by
  unfold sureL
  rw [List.pairwise_flatMap]
  constructor
  · intro a ha
    unfold sureA
    rw [List.pairwise_map]
    refine ((rng_pairwise N).sublist List.filter_sublist).imp fun h => ?_
    show a * 64 + _ < a * 64 + _
    omega
  · refine (rng_pairwise N).imp_of_mem fun {a b} ha hb h x hx y hy => ?_
    unfold sureA at hx hy
    obtain ⟨c, hc, rfl⟩ := List.mem_map.mp hx
    obtain ⟨d, hd, rfl⟩ := List.mem_map.mp hy
    have h1 := rng_mem.mp (List.mem_filter.mp hc).1
    have h2 := rng_mem.mp (List.mem_filter.mp hd).1
    show a * 64 + c < b * 64 + d
    omega
theorem sure_len {N : Int} (h0 : 0 ≤ N) (h5 : N ≤ 5) (O : List (List Int)) : (sureL N O).length ≤ 25 := by
  have : ∀ xs : List Int, (xs.flatMap (sureA N O)).length ≤ xs.length * 5 := fun xs => by
    induction xs with
    | nil => simp
    | cons x xs ih =>
      rw [List.flatMap_cons, List.length_append, List.length_cons]
      have := sureA_len (N := N) O x
      omega
  have h := this (rng N)
  rw [length_rng] at h
  unfold sureL
  omega
section
variable {w : Int} {F : List (List Int)} {T : List (Int × Int)} (B : TabF w F)
include B
theorem sure_ok (hT : PrsOK F.length T) : PrsOK F.length (sureL F.length ((ords F.length).filter (okA F T))) :=
  ⟨sure_pw (by have := B.n5; omega) _, fun q hq => (sure_mem.mp hq).2.1, fun q hq => (sure_mem.mp hq).1⟩
theorem stands_ok {O : List (List Int)} (hO : ∀ o ∈ O, o ∈ ords F.length) {a b : Int} (ha : a ∈ rng F.length) (hb : b ∈ rng F.length) : (mapR O fun v5 => (indexR v5 a).bind fun v6 => (indexR v5 b).bind fun v7 => R.ok (decide (v6 < v7))) = .ok (O.map fun o => bef o (a, b)) := mapR_ok fun o ho => by
  have C := chkN B
  rw [C.ig o (hO o ho) a ha, R.bind_ok, C.ig o (hO o ho) b hb]; rfl
theorem law_sure_ok {O : List (List Int)} (hO : ∀ o ∈ O, o ∈ ords F.length) : n__law_sure F.length O = .ok (sureL F.length O) := by
  have h5 := B.n5
  unfold n__law_sure
  rw [rngR_0 (by omega) (by omega), R.bind_ok]
  rw [foldR_flat 5 (g := sureA F.length O) (by rw [length_rng]; simp; omega) (fun a _ => Nat.le_trans (sureA_len O a) (by omega)) fun s a ha hs => ?_, R.bind_ok]
  · rfl
  · rw [R.bind_ok]
    rw [foldR_filt (p := fun b => !decide (a = b) && O.all fun o => bef o (a, b)) (g := fun b => (a, b)) (by rw [length_rng]; omega) fun s b hb hs => ?_, R.bind_ok]
    · rfl
    · by_cases c : a = b
      · simp [c]
      · rw [if_pos (by simp [c]), stands_ok B hO ha hb, R.bind_ok, R.bind_ok, List.all_map]
        have e : O.all (id ∘ fun o => bef o (a, b)) = O.all fun o => bef o (a, b) := rfl
        rw [e, decide_eq_false c]
        cases O.all fun o => bef o (a, b) with
        | true => simp [snocR_ok hs]
        | false => simp
theorem surely_ok (hT : PrsOK F.length T) (hl : T.length ≤ 100) : n_surely_ahead w F T = .ok (sureL F.length ((ords F.length).filter (okA F T))) := by
  have C := chkN B
  have h5 := B.n5
  unfold n_surely_ahead
  rw [told_ok B hT hl, R.bind_ok, show (3000 + 1 : Int) = 3001 from rfl, by_age_ok B.n5 C.ln, R.bind_ok, if_neg (by
    have := List.length_filter_le (okA F T) (ords F.length)
    have := C.ln
    simp only [decide_eq_true_eq]; omega), rngR_0 (by omega) (by omega), R.bind_ok]
  have hO : ∀ o ∈ (ords F.length).filter (okA F T), o ∈ ords F.length := fun o ho => (List.mem_filter.mp ho).1
  generalize (ords F.length).filter (okA F T) = O at hO
  rw [foldR_flat 5 (g := sureA F.length O) (by rw [length_rng]; simp; omega) (fun a _ => Nat.le_trans (sureA_len O a) (by omega)) fun s a ha hs => ?_, R.bind_ok]
  · rfl
  · rw [R.bind_ok]
    have e : (mapSR (rng F.length) () fun (v8 : Unit) v7 => (if (!(decide (a = v7))) = true then (n_stands_ahead O a v7).bind fun v9 => R.ok v9 else R.ok false).bind fun v10 => if v10 = true then R.ok (some (a, v7), ()) else R.ok (none, ())) = .ok (sureA F.length O a, ()) := by
      rw [mapSR_fm (G := fun b => if (!decide (a = b) && O.all fun o => bef o (a, b)) = true then some (a, b) else none) fun b hb => ?_]
      · refine congrArg (fun z => R.ok (z, ())) ?_
        unfold sureA
        generalize rng F.length = E
        induction E with
        | nil => rfl
        | cons v E ih =>
          by_cases c : (!decide (a = v) && O.all fun o => bef o (a, v)) = true
          · rw [List.filterMap_cons, List.filter_cons_of_pos (p := fun b => !decide (a = b) && O.all fun o => bef o (a, b)) c, if_pos c, List.map_cons, ih]
          · rw [List.filterMap_cons, List.filter_cons_of_neg (p := fun b => !decide (a = b) && O.all fun o => bef o (a, b)) c, if_neg c, ih]
      · by_cases c : a = b
        · simp [c]
        · have e2 : n_stands_ahead O a b = .ok (O.all fun o => bef o (a, b)) := by
            unfold n_stands_ahead
            rw [stands_ok B hO ha hb, R.bind_ok, List.all_map]; rfl
          rw [if_pos (by simp [c]), e2, R.bind_ok, R.bind_ok, decide_eq_false c]
          cases O.all fun o => bef o (a, b) <;> rfl
    rw [e, R.bind_ok, catR_ok (by have := sureA_len (N := F.length) O a; dsimp only; omega)]; rfl
/-! ### turned about -/
theorem okA_swap {T2 : List (Int × Int)} (hT : PrsOK F.length T) (hT2 : PrsOK F.length T2) (hs : ∀ q, q ∈ T2 ↔ (q.2, q.1) ∈ T) {o : List Int} (ho : o ∈ ords F.length) : okA F T2 o.reverse = okA F T o := by
  have C := chkN B
  rw [okA_eq B hT2 (C.rv o ho), okA_eq B hT ho]
  congr 1
  · rw [Bool.eq_iff_iff, List.all_eq_true, List.all_eq_true]
    constructor
    · intro h q hq
      obtain ⟨h1, h2⟩ := hT.rg q hq
      have := h (q.2, q.1) ((hs _).mpr hq)
      rw [C.br o ho q.1 h1 q.2 h2 (hT.ne q hq)] at this
      exact this
    · intro h q hq
      have hq' := (hs q).mp hq
      obtain ⟨h1, h2⟩ := hT.rg _ hq'
      have := C.br o ho q.2 h1 q.1 h2 (hT.ne _ hq')
      rw [show q = (q.1, q.2) from rfl, this]
      exact h _ hq'
  · congr 1
    funext x
    exact C.cr o ho _ (fS_subs B x)
theorem lex_of {a b : List Int} (h : lexI a b = true) : lexI b a = false := by
  rcases lex_tot a b with z | z
  · rw [z] at h; cases h
  · exact z
theorem back_ok {T2 : List (Int × Int)} (hT : PrsOK F.length T) (hT2 : PrsOK F.length T2) (hs : ∀ q, q ∈ T2 ↔ (q.2, q.1) ∈ T) : (ords F.length).filter (okA F T2) = sortE (encT encI) (((ords F.length).filter (okA F T)).map List.reverse) := by
  have C := chkN B
  have nd : (ords F.length).Nodup := C.pw.imp fun {a b} h e => by rw [e, lex_self] at h; cases h
  refine sortT_uniq ?_ ((C.pw.sublist List.filter_sublist).imp fun h => lex_of B h)
  refine (List.perm_ext_iff_of_nodup (nd.sublist List.filter_sublist) ?_).mpr fun o => ?_
  · rw [List.Nodup, List.pairwise_map]
    refine (nd.sublist List.filter_sublist).imp fun h e => h ?_
    have := congrArg List.reverse e
    simpa using this
  · rw [List.mem_filter, List.mem_map]
    constructor
    · rintro ⟨h1, h2⟩
      refine ⟨o.reverse, List.mem_filter.mpr ⟨C.rv o h1, ?_⟩, List.reverse_reverse o⟩
      rw [← okA_swap B hT hT2 hs (C.rv o h1), List.reverse_reverse]; exact h2
    · rintro ⟨o2, h, rfl⟩
      obtain ⟨h1, h2⟩ := List.mem_filter.mp h
      exact ⟨C.rv o2 h1, by rw [okA_swap B hT hT2 hs h1]; exact h2⟩
theorem sort_prs (hT : PrsOK F.length T) : PrsOK F.length (sortE (encP encI encI) (T.map fun v7 => (v7.2, v7.1))) ∧ ∀ q, q ∈ sortE (encP encI encI) (T.map fun v7 => (v7.2, v7.1)) ↔ (q.2, q.1) ∈ T := by
  have h5 := B.n5
  have hp := sortE_perm (encP encI encI) (T.map fun v7 => (v7.2, v7.1))
  have hm : ∀ q, q ∈ sortE (encP encI encI) (T.map fun v7 => (v7.2, v7.1)) ↔ (q.2, q.1) ∈ T := fun q => by
    rw [hp.mem_iff, List.mem_map]
    constructor
    · rintro ⟨a, ha, rfl⟩; exact ha
    · intro h; exact ⟨_, h, rfl⟩
  have rg : ∀ q ∈ sortE (encP encI encI) (T.map fun v7 => (v7.2, v7.1)), q.1 ∈ rng F.length ∧ q.2 ∈ rng F.length := fun q hq => by
    have := hT.rg _ ((hm q).mp hq)
    exact ⟨this.2, this.1⟩
  refine ⟨⟨?_, fun q hq e => hT.ne _ ((hm q).mp hq) e.symm, rg⟩, hm⟩
  have s : List.Pairwise (fun a b : Int × Int => (!lte (encP encI encI) b a) = true) (sortE (encP encI encI) (T.map fun v7 => (v7.2, v7.1))) := by
    unfold sortE
    refine List.pairwise_mergeSort (le := fun a b : Int × Int => !lte (encP encI encI) b a) (fun a b c h1 h2 => ?_) (fun a b => ?_) _
    · simp only [lteP, Bool.not_eq_true'] at *
      split at h1 <;> split at h2 <;> split <;> simp only [decide_eq_false_iff_not] at * <;> omega
    · simp only [lteP, Bool.or_eq_true, Bool.not_eq_true']
      split <;> split <;> simp only [decide_eq_false_iff_not] at * <;> omega
  have nd : (sortE (encP encI encI) (T.map fun v7 => (v7.2, v7.1))).Nodup := by
    refine hp.nodup_iff.mpr ?_
    rw [List.Nodup, List.pairwise_map]
    refine hT.pw.imp fun {a b} h e => ?_
    rw [Prod.mk.injEq] at e
    unfold cdP at h
    omega
  refine (s.and nd).imp_of_mem fun {a b} ha hb h => ?_
  have ra := rg a ha
  have rb := rg b hb
  have a1 := rng_mem.mp ra.1
  have a2 := rng_mem.mp ra.2
  have b1 := rng_mem.mp rb.1
  have b2 := rng_mem.mp rb.2
  have h1 := h.1
  have hne : ¬ (a.1 = b.1 ∧ a.2 = b.2) := fun z => h.2 (Prod.ext z.1 z.2)
  rw [Bool.not_eq_true', lteP] at h1
  unfold cdP
  split at h1 <;> simp only [decide_eq_false_iff_not] at h1 <;> omega
/-- told besides, what is sure changes nothing -/
theorem sure_same (hT : PrsOK F.length T) : (ords F.length).filter (okA F (sureL F.length ((ords F.length).filter (okA F T)))) = (ords F.length).filter (okA F T) := by
  have hS := sure_ok B hT
  apply List.filter_congr
  intro o ho
  rw [okA_eq B hS ho]
  rw [Bool.eq_iff_iff, Bool.and_eq_true, List.all_eq_true]
  constructor
  · rintro ⟨h1, h2⟩
    rw [okA_eq B hT ho, Bool.and_eq_true, List.all_eq_true]
    refine ⟨fun q hq => h1 q (sure_mem.mpr ⟨hT.rg q hq, hT.ne q hq, fun o2 h => ?_⟩), h2⟩
    obtain ⟨g1, g2⟩ := List.mem_filter.mp h
    rw [okA_eq B hT g1, Bool.and_eq_true, List.all_eq_true] at g2
    exact g2.1 q hq
  · intro h
    refine ⟨fun q hq => (sure_mem.mp hq).2.2 o (List.mem_filter.mpr ⟨ho, h⟩), ?_⟩
    rw [okA_eq B hT ho, Bool.and_eq_true] at h
    exact h.2
/-- one more pair -/
theorem more_ok (hT : PrsOK F.length T) (hl : T.length ≤ 50) {a b : Int} (ha : a ∈ rng F.length) (hb : b ∈ rng F.length) : ∃ T2, setPR (T ++ if (!decide (a = b)) = true then [(a, b)] else []) = .ok T2 ∧ T2.length ≤ 100 ∧ PrsOK F.length T2 ∧ (ords F.length).filter (okA F T2) = ((ords F.length).filter (okA F T)).filter fun o => decide (a = b) || bef o (a, b) := by
  have h5 := B.n5
  have hm : ∀ q ∈ T ++ (if (!decide (a = b)) = true then [(a, b)] else []), (q.1 ∈ rng F.length ∧ q.2 ∈ rng F.length) ∧ q.1 ≠ q.2 := fun q hq => by
    rcases List.mem_append.mp hq with z | z
    · exact ⟨hT.rg q z, hT.ne q z⟩
    · by_cases c : a = b
      · simp [c] at z
      · simp [c] at z
        rw [z]; exact ⟨⟨ha, hb⟩, c⟩
  have hlen : (T ++ (if (!decide (a = b)) = true then [(a, b)] else [])).length ≤ 51 := by
    rw [List.length_append]
    split <;> simp <;> omega
  have hmem : ∀ q, q ∈ ssP (T ++ (if (!decide (a = b)) = true then [(a, b)] else [])) ↔ q ∈ T ∨ (a ≠ b ∧ q = (a, b)) := fun q => by
    rw [ssP_mem, List.mem_append]
    by_cases c : a = b
    · simp [c]
    · simp [c]
  generalize (T ++ if (!decide (a = b)) = true then [(a, b)] else []) = Z at hm hlen hmem
  have hsm : ∀ q ∈ Z, smP q = true := fun q hq => by
    obtain ⟨⟨h1, h2⟩, _⟩ := hm q hq
    have h1 := rng_mem.mp h1
    have h2 := rng_mem.mp h2
    unfold smP
    simp only [Bool.and_eq_true, decide_eq_true_eq]
    omega
  have P : PrsOK F.length (ssP Z) := ⟨ssP_srt hsm, fun q hq => (hm q (ssP_mem.mp hq)).2, fun q hq => (hm q (ssP_mem.mp hq)).1⟩
  refine ⟨ssP Z, ?_, ?_, P, ?_⟩
  · unfold setPR
    rw [if_pos]
    rw [Bool.and_eq_true, decide_eq_true_eq, List.all_eq_true]
    exact ⟨by omega, hsm⟩
  · have : ∀ zs : List (Int × Int), (ssP zs).length ≤ zs.length := fun zs => by
      induction zs with
      | nil => exact Nat.le_refl _
      | cons z zs ih =>
        have hi : ∀ (p : Int × Int) (l : List (Int × Int)), (insP p l).length ≤ l.length + 1 := fun p l => by
          induction l with
          | nil => simp [insP]
          | cons y l ihl =>
            unfold insP
            split
            · simp
            · split
              · simp
              · simp only [List.length_cons]; omega
        have := hi z (ssP zs)
        show (insP z (ssP zs)).length ≤ _
        simp only [List.length_cons]; omega
    have := this Z
    omega
  · rw [List.filter_filter]
    apply List.filter_congr
    intro o ho
    rw [okA_eq B P ho, okA_eq B hT ho, Bool.eq_iff_iff]
    simp only [Bool.and_eq_true, Bool.or_eq_true, decide_eq_true_eq, List.all_eq_true]
    constructor
    · rintro ⟨h1, h2⟩
      refine ⟨?_, fun q hq => h1 q ((hmem q).mpr (.inl hq)), h2⟩
      by_cases c : a = b
      · exact .inl c
      · exact .inr (h1 _ ((hmem _).mpr (.inr ⟨c, rfl⟩)))
    · rintro ⟨h0, h1, h2⟩
      refine ⟨fun q hq => ?_, h2⟩
      rcases (hmem q).mp hq with z | ⟨c, rfl⟩
      · exact h1 q z
      · rcases h0 with z | z
        · exact absurd z c
        · exact z
end
end SW

namespace SW
open PySem
theorem b_n__law_hand (a0 : (List Int)) : Run (d__law_hand [encScr a0] []) (n__law_hand a0) fun z v h' => ∃ l, v = .ref l ∧ h'[l]? = some (.lst ([(encL encI) z.1, encI z.2.1, encI z.2.2.1, encI z.2.2.2.1, encI z.2.2.2.2])) := by
  unfold d__law_hand b__law_hand n__law_hand
  exact d_run (env := [some (encScr a0), none, none]) rfl (s_seq (s_asg (c_gen (v := (encL encI)) (X := (List.map (fun v1 => (absI v1)) (cutL a0 none (some 63)))) (q_frz (q_comp (xs := (cutL a0 none (some 63))) (c := encI) (d := encI) (F := fun v1 => (absI v1)) (E := fun v1 => [some (encScr a0), none, some (encI v1)]) (s_seqL (q_cutSt (q_var rfl) q_part0 (q_part1 q_c))) trivial (fun v1 => rfl) (fun v1 => (q_call (q_args1 (q_call (q_args1 (q_var rfl) q_args0) int_i) q_args0) o_abs)))) (fun v2 => g_set (n_nx (r' := [some (encScr a0), some ((encL encI) v2), none]) (h' := []) rfl rfl rfl (by exact (n_thn (s_ret (c_loc (c_pure (q_args1 (q_var rfl) (q_args1 q_c (q_args1 q_c (q_args1 (q_bin q_c (q_bin q_c (q_call (q_args1 (q_var rfl) q_args0) o_lenL) (o_mulK (by decide))) add_ii) (q_args1 q_c q_args0))))) (run_ret ⟨_, rfl, rfl⟩)))))))))))
theorem m_n__law_hand (a0 : (List Int)) (h : PH) : Run (apartN d__law_hand [encScr a0] h) (n__law_hand a0) (Xt (fun z => [(encL encI) z.1, encI z.2.1, encI z.2.2.1, encI z.2.2.2.1, encI z.2.2.2.2]) fun _ => h) :=
  apN_of (b_n__law_hand a0) (frees_c (free_scr a0) rfl) (fun z => (frees_c ((fun z => (enc_lst enc_int).fr z) _) (frees_c ((fun z => enc_int.fr z) _) (frees_c ((fun z => enc_int.fr z) _) (frees_c ((fun z => enc_int.fr z) _) (frees_c ((fun z => enc_int.fr z) _) rfl))))))
theorem b_n_is_integer (a0 : Int) : Run (d_is_integer [encI a0] []) (n_is_integer a0) fun z v _ => v = encB z := by
  unfold d_is_integer b_is_integer n_is_integer
  exact d_run (env := [some (encI a0)]) rfl (s_ret (c_pure (q_andT (q_as (w := encB true) (q_as (w := encB true) (q_un (q_var rfl) (by rfl)) rfl) rfl) (q_as (w := encB true) (q_not (q_as (w := encB false) (q_un (q_var rfl) (by rfl)) rfl)) rfl)) (run_ret rfl)))
theorem m_n_is_integer (a0 : Int) (h : PH) : Run (apart d_is_integer [encI a0] h) (n_is_integer a0) (Xt encB fun _ => h) :=
  ap_of (b_n_is_integer a0) (frees_c ((fun z => enc_int.fr z) a0) rfl) (fun z => enc_bl.fr z)
theorem b_n_is_within (a0 : Int) (a1 : Int) (a2 : Int) : Run (d_is_within [encI a0, encI a1, encI a2] []) (n_is_within a0 a1 a2) fun z v _ => v = encB z := by
  unfold d_is_within b_is_within n_is_within
  exact d_run (env := [some (encI a0), some (encI a1), some (encI a2)]) rfl (s_ret (c_runN (V := fun (v2 : Bool) => encB v2) (H' := fun (v2 : Bool) => []) (c_id (c_and (c_callP (c_pure (q_args1 (q_var rfl) q_args0) (c_run (V := encB) (m_n_is_integer a0 _) (fun v1 => (c_andB (c_pure (q_chain (q_var rfl) (q_var rfl) (q_var rfl) le_ii le_ii) (run_ret ⟨rfl, rfl⟩)) (run_ret ⟨rfl, rfl⟩)))))))) (fun _ => rfl) (fun v2 => (run_ret rfl))))
theorem m_n_is_within (a0 : Int) (a1 : Int) (a2 : Int) (h : PH) : Run (apart d_is_within [encI a0, encI a1, encI a2] h) (n_is_within a0 a1 a2) (Xt encB fun _ => h) :=
  ap_of (b_n_is_within a0 a1 a2) (frees_c ((fun z => enc_int.fr z) a0) (frees_c ((fun z => enc_int.fr z) a1) (frees_c ((fun z => enc_int.fr z) a2) rfl))) (fun z => enc_bl.fr z)
theorem b_n_is_lot (a0 : Int) (a1 : (List Int)) : Run (d_is_lot [encI a0, (encT encI) a1] []) (n_is_lot a0 a1) fun z v _ => v = encB z := by
  unfold d_is_lot b_is_lot n_is_lot
  exact d_run (env := [some (encI a0), some ((encT encI) a1), none, none]) rfl (s_seq (s_if (c_runN (V := fun (v14 : Bool) => v14) (H' := fun (v14 : Bool) => []) (c_id (k_or (c_pure (q_tt (w := false) (t_not (t_bl (q_as (w := encB true) (q_un (q_var rfl) (by rfl)) rfl))) rfl) (c_iteF rfl (k_not (k_val (c_call (c_args1 (c_frz (c_run (V := fun v13 => List.map encB v13) (r_comp (xs := a1) (c := encI) (d := encB) (E := fun v10 => [some (encI a0), some ((encT encI) a1), some (encI v10), none]) (s_seqT (q_var rfl)) trivial (fun v10 => rfl) (fun v10 => c_id (c_callP (c_pure (q_args1 (q_var rfl) (q_args1 q_c (q_args1 (q_bin (q_var rfl) q_c sub_ii) q_args0))) (c_run (V := encB) (m_n_is_within v10 0 (a0 - 1) _) (fun v11 => (run_ret ⟨rfl, rfl⟩))))))) (fun v13 => (c_args0 (c_liftP (z := encB (v13.all id)) o_allL (k_bl (run_ret ⟨rfl, rfl⟩))))))))))))))) (fun _ => rfl) (fun v14 => (c_ite (s_ret (c_pure q_c (n_rt (run_ret rfl)))) (s_nil (n_thn (s_ret (c_call (c_args1 (c_frz (c_rng (s_rng1 (q_bin (q_call (q_args1 (q_var rfl) q_args0) o_lenT) q_c sub_ii)) (fun v15 hv15 => (c_run (V := fun v20 => List.map encB v20) (r_comp (xs := v15) (c := encI) (d := encB) (E := fun v16 => [some (encI a0), some ((encT encI) a1), none, some (encI v16)]) hv15 trivial (fun v16 => rfl) (fun v16 => c_id (c_bin (c_bin (c_pure (q_var rfl) (c_pure (q_var rfl) (c_lift (v_idxT (c := encI) (xs := a1) (i := v16)) (fun v17 => (c_bin (c_pure (q_var rfl) (c_pure (q_bin (q_var rfl) q_c add_ii) (c_lift (v_idxT (c := encI) (xs := a1) (i := (v16 + 1))) (fun v18 => (c_liftP (z := encB (decide (v17 < v18))) lt_ii (run_ret ⟨rfl, rfl⟩))))))))))))))) (fun v20 => (c_args0 (c_liftP (z := encB (v20.all id)) o_allL (run_ret rfl))))))))))))))))))
theorem m_n_is_lot (a0 : Int) (a1 : (List Int)) (h : PH) : Run (apart d_is_lot [encI a0, (encT encI) a1] h) (n_is_lot a0 a1) (Xt encB fun _ => h) :=
  ap_of (b_n_is_lot a0 a1) (frees_c ((fun z => enc_int.fr z) a0) (frees_c ((fun z => (enc_tup enc_int).fr z) a1) rfl)) (fun z => enc_bl.fr z)
theorem b_n_check_finds (a0 : Int) (a1 : (List (List Int))) : Run (d_check_finds [encI a0, (encT (encT encI)) a1] []) (n_check_finds a0 a1) fun z v _ => v = encN z := by
  unfold d_check_finds b_check_finds n_check_finds
  exact d_run (env := [some (encI a0), some ((encT (encT encI)) a1), none]) rfl (s_seq (s_if (c_runN (V := fun (v2 : Bool) => v2) (H' := fun (v2 : Bool) => []) (c_id (k_not (k_val (c_callP (c_pure (q_args1 (q_var rfl) (q_args1 q_c (q_args1 (q_as (w := encI 9) q_c rfl) q_args0))) (c_run (V := encB) (m_n_is_within a0 1 9 _) (fun v1 => (k_bl (run_ret ⟨rfl, rfl⟩))))))))) (fun _ => rfl) (fun v2 => (c_ite s_stuck (s_nil (n_thn (s_seq (s_if (c_pure (t_orF (q_tt (w := false) (t_not (t_bl (q_as (w := encB true) (q_un (q_var rfl) (by rfl)) rfl))) rfl) (t_not (t_bl (q_chain q_c (q_call (q_args1 (q_var rfl) q_args0) o_lenT) (q_as (w := encI 8) q_c rfl) le_ii le_ii)))) (c_ite s_stuck (s_nil (n_thn (s_if (c_runN (V := fun (v15 : Bool) => v15) (H' := fun (v15 : Bool) => []) (c_id (k_not (k_val (c_call (c_args1 (c_frz (c_run (V := fun v14 => List.map encB v14) (r_comp (xs := a1) (c := (encT encI)) (d := encB) (E := fun v11 => [some (encI a0), some ((encT (encT encI)) a1), some ((encT encI) v11)]) (s_seqT (q_var rfl)) trivial (fun v11 => rfl) (fun v11 => c_id (c_callP (c_pure (q_args1 (q_var rfl) (q_args1 (q_var rfl) q_args0)) (c_run (V := encB) (m_n_is_lot a0 v11 _) (fun v12 => (run_ret ⟨rfl, rfl⟩))))))) (fun v14 => (c_args0 (c_liftP (z := encB (v14.all id)) o_allL (k_bl (run_ret ⟨rfl, rfl⟩)))))))))))) (fun _ => rfl) (fun v15 => (c_ite s_stuck (s_nil (run_ret rfl)))))))))))))))))))
theorem m_n_check_finds (a0 : Int) (a1 : (List (List Int))) (h : PH) : Run (apart d_check_finds [encI a0, (encT (encT encI)) a1] h) (n_check_finds a0 a1) (Xt encN fun _ => h) :=
  ap_of (b_n_check_finds a0 a1) (frees_c ((fun z => enc_int.fr z) a0) (frees_c ((fun z => (enc_tup (enc_tup enc_int)).fr z) a1) rfl)) (fun z => enc_n.fr z)
theorem b_n_is_told (a0 : Int) (a1 : (Int × Int)) : Run (d_is_told [encI a0, (encP encI encI) a1] []) (n_is_told a0 a1) fun z v _ => v = encB z := by
  unfold d_is_told b_is_told n_is_told
  exact d_run (env := [some (encI a0), some ((encP encI encI) a1), none]) rfl (s_seq (s_if (c_runN (V := fun (v15 : Bool) => v15) (H' := fun (v15 : Bool) => []) (c_id (k_or (c_pure (q_tt (w := false) (t_not (t_bl (q_as (w := encB true) (q_un (q_var rfl) (by rfl)) rfl))) rfl) (c_iteF rfl (k_or (c_pure (t_bl (q_as (w := encB (!(decide (2 = 2)))) (q_bin (q_call (q_args1 (q_var rfl) q_args0) rfl) q_c ne_ii) rfl)) (c_iteF rfl (k_not (k_val (c_call (c_args1 (c_frz (c_run (V := fun v14 => List.map encB v14) (r_comp (xs := [a1.1, a1.2]) (c := encI) (d := encB) (E := fun v11 => [some (encI a0), some ((encP encI encI) a1), some (encI v11)]) (s_seqT (q_as (w := (encT encI) [a1.1, a1.2]) (q_var rfl) rfl)) trivial (fun v11 => rfl) (fun v11 => c_id (c_callP (c_pure (q_args1 (q_var rfl) (q_args1 q_c (q_args1 (q_bin (q_var rfl) q_c sub_ii) q_args0))) (c_run (V := encB) (m_n_is_within v11 0 (a0 - 1) _) (fun v12 => (run_ret ⟨rfl, rfl⟩))))))) (fun v14 => (c_args0 (c_liftP (z := encB (v14.all id)) o_allL (k_bl (run_ret ⟨rfl, rfl⟩)))))))))))))))))) (fun _ => rfl) (fun v15 => (c_ite (s_ret (c_pure q_c (n_rt (run_ret rfl)))) (s_nil (n_thn (s_ret (c_pure (q_bin (q_as (w := encI a1.1) (q_bin (q_var rfl) q_c (by rfl)) rfl) (q_as (w := encI a1.2) (q_bin (q_var rfl) q_c (by rfl)) rfl) ne_ii) (run_ret rfl))))))))))
theorem m_n_is_told (a0 : Int) (a1 : (Int × Int)) (h : PH) : Run (apart d_is_told [encI a0, (encP encI encI) a1] h) (n_is_told a0 a1) (Xt encB fun _ => h) :=
  ap_of (b_n_is_told a0 a1) (frees_c ((fun z => enc_int.fr z) a0) (frees_c ((fun z => (enc_p enc_int enc_int).fr z) a1) rfl)) (fun z => enc_bl.fr z)
theorem b_n_check_told (a0 : Int) (a1 : (List (List Int))) (a2 : (List (Int × Int))) : Run (d_check_told [encI a0, (encT (encT encI)) a1, (encT (encP encI encI)) a2] []) (n_check_told a0 a1 a2) fun z v _ => v = encN z := by
  unfold d_check_told b_check_told n_check_told
  exact d_run (env := [some (encI a0), some ((encT (encT encI)) a1), some ((encT (encP encI encI)) a2), none, none]) rfl (s_seq (s_expr (c_callP (c_pure (q_args1 (q_var rfl) (q_args1 (q_var rfl) q_args0)) (c_run (V := encN) (m_n_check_finds a0 a1 _) (fun v1 => (n_nx (r' := [some (encI a0), some ((encT (encT encI)) a1), some ((encT (encP encI encI)) a2), none, none]) (h' := []) rfl rfl rfl (by exact (n_thn (s_seq (s_if (c_runN (V := fun (v15 : Bool) => v15) (H' := fun (v15 : Bool) => []) (c_id (k_or (c_pure (q_tt (w := false) (t_not (t_bl (q_as (w := encB true) (q_un (q_var rfl) (by rfl)) rfl))) rfl) (c_iteF rfl (k_not (k_val (c_call (c_args1 (c_frz (c_run (V := fun v14 => List.map encB v14) (r_comp (xs := a2) (c := (encP encI encI)) (d := encB) (E := fun v11 => [some (encI a0), some ((encT (encT encI)) a1), some ((encT (encP encI encI)) a2), some ((encP encI encI) v11), none]) (s_seqT (q_var rfl)) trivial (fun v11 => rfl) (fun v11 => c_id (c_callP (c_pure (q_args1 (q_call (q_args1 (q_var rfl) q_args0) o_lenT) (q_args1 (q_var rfl) q_args0)) (c_run (V := encB) (m_n_is_told ((a1.length : Nat) : Int) v11 _) (fun v12 => (run_ret ⟨rfl, rfl⟩))))))) (fun v14 => (c_args0 (c_liftP (z := encB (v14.all id)) o_allL (k_bl (run_ret ⟨rfl, rfl⟩))))))))))))))) (fun _ => rfl) (fun v15 => (c_ite s_stuck (s_nil (n_thn (s_if (c_runN (V := fun (v22 : Bool) => v22) (H' := fun (v22 : Bool) => []) (c_id (k_not (k_val (c_call (c_args1 (c_frz (c_rng (s_rng1 (q_bin (q_call (q_args1 (q_var rfl) q_args0) o_lenT) q_c sub_ii)) (fun v16 hv16 => (c_run (V := fun v21 => List.map encB v21) (r_comp (xs := v16) (c := encI) (d := encB) (E := fun v17 => [some (encI a0), some ((encT (encT encI)) a1), some ((encT (encP encI encI)) a2), none, some (encI v17)]) hv16 trivial (fun v17 => rfl) (fun v17 => c_id (c_bin (c_bin (c_pure (q_var rfl) (c_pure (q_var rfl) (c_lift (v_idxT (c := (encP encI encI)) (xs := a2) (i := v17)) (fun v18 => (c_bin (c_pure (q_var rfl) (c_pure (q_bin (q_var rfl) q_c add_ii) (c_lift (v_idxT (c := (encP encI encI)) (xs := a2) (i := (v17 + 1))) (fun v19 => (c_liftP (z := encB (lte (encP encI encI) v18 v19)) (o_lt (a := v18) (b := v19) (ord_p ord_i ord_i) (enc_p enc_int enc_int) (by decide)) (run_ret ⟨rfl, rfl⟩))))))))))))))) (fun v21 => (c_args0 (c_liftP (z := encB (v21.all id)) o_allL (k_bl (run_ret ⟨rfl, rfl⟩)))))))))))))) (fun _ => rfl) (fun v22 => (c_ite s_stuck (s_nil (run_ret rfl))))))))))))))))))))))
theorem m_n_check_told (a0 : Int) (a1 : (List (List Int))) (a2 : (List (Int × Int))) (h : PH) : Run (apart d_check_told [encI a0, (encT (encT encI)) a1, (encT (encP encI encI)) a2] h) (n_check_told a0 a1 a2) (Xt encN fun _ => h) :=
  ap_of (b_n_check_told a0 a1 a2) (frees_c ((fun z => enc_int.fr z) a0) (frees_c ((fun z => (enc_tup (enc_tup enc_int)).fr z) a1) (frees_c ((fun z => (enc_tup (enc_p enc_int enc_int)).fr z) a2) rfl))) (fun z => enc_n.fr z)
theorem b_n_can_follow (a0 : (List (List Int))) (a1 : (List Int)) (a2 : Int) : Run (d_can_follow [(encT (encT encI)) a0, (encT encI) a1, encI a2] []) (n_can_follow a0 a1 a2) fun z v _ => v = encB z := by
  unfold d_can_follow b_can_follow n_can_follow
  exact d_run (env := [some ((encT (encT encI)) a0), some ((encT encI) a1), some (encI a2), none, none, none]) rfl (s_seq (s_if (c_pure (t_bl (q_bin (q_call (q_args1 (q_var rfl) q_args0) o_lenT) q_c eq_ii)) (c_ite (s_ret (c_pure q_c (n_rt (run_ret rfl)))) (s_nil (n_thn (s_seq (s_asg (c_bin (c_pure (q_var rfl) (c_bin (c_pure (q_var rfl) (c_pure (q_un q_c neg_i) (c_lift (v_idxT (c := encI) (xs := a1) (i := (-1))) (fun v1 => (c_lift (v_idxT (c := (encT encI)) (xs := a0) (i := v1)) (fun v2 => (g_set (n_nx (r' := [some ((encT (encT encI)) a0), some ((encT encI) a1), some (encI a2), some ((encT encI) v2), none, none]) (h' := []) rfl rfl rfl (by exact (n_thn (s_ret (c_runN (V := fun (v17 : Bool) => encB v17) (H' := fun (v17 : Bool) => []) (c_id (c_not (c_call (c_args1 (c_frz (k_srcS (c_bin (c_pure (q_var rfl) (c_pure (q_var rfl) (c_lift (v_idxT (c := (encT encI)) (xs := a0) (i := a2)) (fun v3 => (c_run (V := fun v16 => List.map encB v16) (r_comp (xs := v3) (c := encI) (d := encB) (E := fun v4 => [some ((encT (encT encI)) a0), some ((encT encI) a1), some (encI a2), some ((encT encI) v2), none, some (encI v4)]) (s_seqT q_c) trivial (fun v4 => rfl) (fun v4 => c_id (c_runN (V := fun (v14 : Bool) => encB v14) (H' := fun (v14 : Bool) => []) (c_id (c_and (c_pure (q_bin (q_var rfl) (q_var rfl) (o_ninT (a := v4) (xs := v2) enc_int (by decide))) (c_andB (c_call (c_args1 (c_frz (c_run (V := fun v13 => List.map encB v13) (r_comp (xs := a1) (c := encI) (d := encB) (E := fun v10 => [some ((encT (encT encI)) a0), some ((encT encI) a1), some (encI a2), some ((encT encI) v2), some (encI v10), some (encI v4)]) (s_seqT (q_var rfl)) trivial (fun v10 => rfl) (fun v10 => c_id (c_bin (c_pure (q_var rfl) (c_bin (c_pure (q_var rfl) (c_pure (q_var rfl) (c_lift (v_idxT (c := (encT encI)) (xs := a0) (i := v10)) (fun v11 => (c_liftP (z := encB (decide (v4 ∈ v11))) (o_inT (a := v4) (xs := v11) enc_int (by decide)) (run_ret ⟨rfl, rfl⟩))))))))))) (fun v13 => (c_args0 (c_liftP (z := encB (v13.any id)) o_anyL (run_ret ⟨rfl, rfl⟩)))))))) (run_ret ⟨rfl, rfl⟩))))) (fun _ => rfl) (fun v14 => (run_ret ⟨rfl, rfl⟩))))) (fun v16 => (c_args0 (c_liftP (z := encB (v16.any id)) o_anyL (run_ret ⟨rfl, rfl⟩)))))))))))))))) (fun _ => rfl) (fun v17 => (run_ret rfl)))))))))))))))))))))))))
theorem m_n_can_follow (a0 : (List (List Int))) (a1 : (List Int)) (a2 : Int) (h : PH) : Run (apart d_can_follow [(encT (encT encI)) a0, (encT encI) a1, encI a2] h) (n_can_follow a0 a1 a2) (Xt encB fun _ => h) :=
  ap_of (b_n_can_follow a0 a1 a2) (frees_c ((fun z => (enc_tup (enc_tup enc_int)).fr z) a0) (frees_c ((fun z => (enc_tup enc_int).fr z) a1) (frees_c ((fun z => enc_int.fr z) a2) rfl))) (fun z => enc_bl.fr z)
theorem b_n_orders_by_age (a0 : (List (List Int))) (a1 : (List (Int × Int))) (a2 : Int) : Run (d_orders_by_age [(encT (encT encI)) a0, (encT (encP encI encI)) a1, encI a2] []) (n_orders_by_age a0 a1 a2) fun z v _ => v = (encL (encT encI)) z := by
  unfold d_orders_by_age b_orders_by_age n_orders_by_age
  exact d_run (env := [some ((encT (encT encI)) a0), some ((encT (encP encI encI)) a1), some (encI a2), none, none, none, none, none, none]) rfl (s_seq (s_par (c_args1 (c_loc (c_pure (q_as (w := List.map encI []) q_args0 rfl) (c_args1 (c_loc (c_pure (q_as (w := List.map (encT encI) [[]]) (q_args1 (q_as (w := (encT encI) []) (q_tup q_args0) rfl) q_args0) rfl) (c_args0 (n_two (n_nx (r' := [some ((encT (encT encI)) a0), some ((encT (encP encI encI)) a1), some (encI a2), some (.ref 0), some (.ref 1), none, none, none, none]) (h' := [((encL encI) []), ((encL (encT encI)) [[]])]) rfl rfl rfl (by exact (n_thn (s_seq (c_run (V := fun (v21 : (List (List Int)) × (List (List Int))) => Fl.nx [some ((encT (encT encI)) a0), some ((encT (encP encI encI)) a1), some (encI a2), some (.ref 0), some (.ref 1), none, none, none, none]) (Hh := fun (v21 : (List (List Int)) × (List (List Int))) => [((encL (encT encI)) v21.1), ((encL (encT encI)) v21.2)]) (r_wh (S := (List (List Int)) × (List (List Int))) (E := fun (v1 : (List (List Int)) × (List (List Int))) => [some ((encT (encT encI)) a0), some ((encT (encP encI encI)) a1), some (encI a2), some (.ref 0), some (.ref 1), none, none, none, none]) (Hh := fun (v1 : (List (List Int)) × (List (List Int))) => [((encL (encT encI)) v1.1), ((encL (encT encI)) v1.2)]) (s0 := ([], [[]])) rfl rfl (fun v1 => by exact c_id (c_pure (t_and (t_bl (q_bin (q_call (q_args1 (q_var rfl) q_args0) (o_lenR rfl)) q_c gt_ii)) (t_bl (q_bin (q_call (q_args1 (q_var rfl) q_args0) (o_lenR rfl)) (q_var rfl) lt_ii))) (run_ret ⟨rfl, rfl⟩))) (fun v1 => by exact (c_id (s_wipe (s_seq (s_asg (c_met (q_var rfl) rfl (c_pure q_args0 (m_op (Z := fun (v2 : (List (List Int)) × (List Int)) => (encT encI) v2.2) (H' := fun (v2 : (List (List Int)) × (List Int)) => [((encL (encT encI)) v1.1), ((encL (encT encI)) v2.1)]) rfl (v_pop (c := (encT encI)) (xs := v1.2)) (fun _ => rfl) (fun v2 => (g_set (n_nx (r' := [some ((encT (encT encI)) a0), some ((encT (encP encI encI)) a1), some (encI a2), some (.ref 0), some (.ref 1), some ((encT encI) v2.2), none, none, none]) (h' := [((encL (encT encI)) v1.1), ((encL (encT encI)) v2.1)]) rfl rfl rfl (by exact (n_thn (s_if (c_pure (t_bl (q_bin (q_call (q_args1 (q_var rfl) q_args0) o_lenT) (q_call (q_args1 (q_var rfl) q_args0) o_lenT) eq_ii)) (c_ite (s_expr (c_met (q_var rfl) rfl (c_pure (q_args1 (q_var rfl) q_args0) (m_op (Z := fun _ => Val.non) (H' := fun (v3 : (List (List Int))) => [((encL (encT encI)) v3), ((encL (encT encI)) v2.1)]) rfl (v_append (c := (encT encI)) (xs := v1.1) (x := v2.2)) (fun _ => rfl) (fun v3 => (n_nx (r' := [some ((encT (encT encI)) a0), some ((encT (encP encI encI)) a1), some (encI a2), some (.ref 0), some (.ref 1), some ((encT encI) v2.2), none, none, none]) (h' := [((encL (encT encI)) v3), ((encL (encT encI)) v2.1)]) rfl rfl rfl (by exact (w_nx (r' := [some ((encT (encT encI)) a0), some ((encT (encP encI encI)) a1), some (encI a2), some (.ref 0), some (.ref 1), none, none, none, none]) rfl (run_ret ⟨.inl rfl, rfl⟩))))))))) (s_seq (s_asg (c_frz (c_rng (s_rng1 (q_call (q_args1 (q_var rfl) q_args0) o_lenT)) (fun v4 hv4 => (c_runN (V := fun (v9 : (List Int) × Unit) => List.map encI v9.1) (H' := fun (v9 : (List Int) × Unit) => [((encL (encT encI)) v1.1), ((encL (encT encI)) v2.1)]) (r_compS (S := Unit) (Hh := fun (v6 : Unit) => [((encL (encT encI)) v1.1), ((encL (encT encI)) v2.1)]) (s0 := ()) (xs := v4) (c := encI) (d := encI) (E := fun v5 => [some ((encT (encT encI)) a0), some ((encT (encP encI encI)) a1), some (encI a2), some (.ref 0), some (.ref 1), some ((encT encI) v2.2), none, some (encI v5), none]) hv4 (fun _ => trivial) (fun v6 v5 => rfl) (fun v6 v5 => (c_test (c_runN (V := fun (v8 : Bool) => v8) (H' := fun (v8 : Bool) => [((encL (encT encI)) v1.1), ((encL (encT encI)) v2.1)]) (c_id (k_and (c_pure (t_bl (q_bin (q_var rfl) (q_var rfl) (o_ninT (a := v5) (xs := v2.2) enc_int (by decide)))) (c_ite (k_val (c_callP (c_pure (q_args1 (q_var rfl) (q_args1 (q_var rfl) (q_args1 (q_var rfl) q_args0))) (c_run (V := encB) (m_n_can_follow a0 v2.2 v5 _) (fun v7 => (k_bl (run_ret ⟨rfl, rfl⟩))))))) (run_ret ⟨rfl, rfl⟩))))) (fun _ => rfl) (fun v8 => (c_ite (c_one (c_pure (q_var rfl) (run_ret ⟨rfl, rfl⟩))) (run_ret ⟨rfl, rfl⟩))))))) (fun _ => rfl) (fun v9 => (g_set (n_nx (r' := [some ((encT (encT encI)) a0), some ((encT (encP encI encI)) a1), some (encI a2), some (.ref 0), some (.ref 1), some ((encT encI) v2.2), some ((encL encI) v9.1), none, none]) (h' := [((encL (encT encI)) v1.1), ((encL (encT encI)) v2.1)]) rfl rfl rfl (by exact (n_thn (s_seq (s_asg (c_gen (v := (encL encI)) (X := (List.map (fun v10 => v10) (List.filter (fun v10 => (!((List.map (fun v11 => ((decide (v11.2 = v10)) && (!(decide (v11.1 ∈ v2.2))))) a1).any id))) v9.1))) (q_frz (q_compF (xs := v9.1) (c := encI) (d := encI) (F := fun v10 => v10) (p := fun v10 => (!((List.map (fun v11 => ((decide (v11.2 = v10)) && (!(decide (v11.1 ∈ v2.2))))) a1).any id))) (E := fun v10 => [some ((encT (encT encI)) a0), some ((encT (encP encI encI)) a1), some (encI a2), some (.ref 0), some (.ref 1), some ((encT encI) v2.2), some ((encL encI) v9.1), some (encI v10), none]) (s_seqL (q_var rfl)) trivial (fun v10 => rfl) (fun v10 => (t_not (t_bl (q_call (q_args1 (q_frz (q_comp (xs := a1) (c := (encP encI encI)) (d := encB) (F := fun v11 => ((decide (v11.2 = v10)) && (!(decide (v11.1 ∈ v2.2))))) (E := fun v11 => [some ((encT (encT encI)) a0), some ((encT (encP encI encI)) a1), some (encI a2), some (.ref 0), some (.ref 1), some ((encT encI) v2.2), some ((encL encI) v9.1), some (encI v10), some ((encP encI encI) v11)]) (s_seqT (q_var rfl)) trivial (fun v11 => rfl) (fun v11 => (q_and (q_bin (q_as (w := encI v11.2) (q_bin (q_var rfl) q_c (by rfl)) rfl) (q_var rfl) eq_ii) (q_bin (q_as (w := encI v11.1) (q_bin (q_var rfl) q_c (by rfl)) rfl) (q_var rfl) (o_ninT (a := v11.1) (xs := v2.2) enc_int (by decide))))))) q_args0) o_anyL)))) (fun v10 => (q_var rfl)))) (fun v12 => g_set (n_nx (r' := [some ((encT (encT encI)) a0), some ((encT (encP encI encI)) a1), some (encI a2), some (.ref 0), some (.ref 1), some ((encT encI) v2.2), some ((encL encI) v12), none, none]) (h' := [((encL (encT encI)) v1.1), ((encL (encT encI)) v2.1)]) rfl rfl rfl (by exact (n_thn (s_expr (c_met (q_var rfl) rfl (c_args1 (c_frz (c_run (V := fun v19 => List.map (encT encI) v19) (r_comp (xs := (v12.reverse)) (c := encI) (d := (encT encI)) (E := fun v16 => [some ((encT (encT encI)) a0), some ((encT (encP encI encI)) a1), some (encI a2), some (.ref 0), some (.ref 1), some ((encT encI) v2.2), some ((encL encI) v12), some (encI v16), none]) (s_seqL (q_revLt (q_var rfl))) trivial (fun v16 => rfl) (fun v16 => c_id (c_bin (c_pure (q_var rfl) (c_pure (q_as (w := (encT encI) [v16]) (q_tup (q_args1 (q_var rfl) q_args0)) rfl) (c_lift (v_catT (c := encI) (xs := v2.2) (ys := [v16])) (fun v17 => (run_ret ⟨rfl, rfl⟩)))))))) (fun v19 => (c_args0 (m_op (Z := fun _ => Val.non) (H' := fun (v20 : (List (List Int))) => [((encL (encT encI)) v1.1), ((encL (encT encI)) v20)]) rfl (v_extend (c := (encT encI)) (xs := v2.1) (ys := v19)) (fun _ => rfl) (fun v20 => (n_nx (r' := [some ((encT (encT encI)) a0), some ((encT (encP encI encI)) a1), some (encI a2), some (.ref 0), some (.ref 1), some ((encT encI) v2.2), some ((encL encI) v12), none, none]) (h' := [((encL (encT encI)) v1.1), ((encL (encT encI)) v20)]) rfl rfl rfl (by exact (w_nx (r' := [some ((encT (encT encI)) a0), some ((encT (encP encI encI)) a1), some (encI a2), some (.ref 0), some (.ref 1), none, none, none, none]) rfl (run_ret ⟨.inl rfl, rfl⟩)))))))))))))))))))))))))))))))))))))))))))))))) (fun v21 => by exact (n_thn (s_ret (c_mv (q_move rfl rfl) rfl (run_ret rfl))))))))))))))))))))
theorem m_n_orders_by_age (a0 : (List (List Int))) (a1 : (List (Int × Int))) (a2 : Int) (h : PH) : Run (apart d_orders_by_age [(encT (encT encI)) a0, (encT (encP encI encI)) a1, encI a2] h) (n_orders_by_age a0 a1 a2) (Xt (encL (encT encI)) fun _ => h) :=
  ap_of (b_n_orders_by_age a0 a1 a2) (frees_c ((fun z => (enc_tup (enc_tup enc_int)).fr z) a0) (frees_c ((fun z => (enc_tup (enc_p enc_int enc_int)).fr z) a1) (frees_c ((fun z => enc_int.fr z) a2) rfl))) (fun z => (enc_lst (enc_tup enc_int)).fr z)
theorem b_n_age_orders (a0 : Int) (a1 : (List (List Int))) (a2 : (List (Int × Int))) : Run (d_age_orders [encI a0, (encT (encT encI)) a1, (encT (encP encI encI)) a2] []) (n_age_orders a0 a1 a2) fun z v _ => v = (encT (encT encI)) z := by
  unfold d_age_orders b_age_orders n_age_orders
  exact d_run (env := [some (encI a0), some ((encT (encT encI)) a1), some ((encT (encP encI encI)) a2), none]) rfl (s_seq (s_expr (c_callP (c_pure (q_args1 (q_var rfl) (q_args1 (q_var rfl) (q_args1 (q_var rfl) q_args0))) (c_run (V := encN) (m_n_check_told a0 a1 a2 _) (fun v1 => (n_nx (r' := [some (encI a0), some ((encT (encT encI)) a1), some ((encT (encP encI encI)) a2), none]) (h' := []) rfl rfl rfl (by exact (n_thn (s_seq (s_asg (c_callP (c_pure (q_args1 (q_var rfl) (q_args1 (q_var rfl) (q_args1 (q_as (w := encI (3000 + 1)) (q_bin (q_as (w := encI 3000) q_c rfl) q_c add_ii) rfl) q_args0))) (c_run (V := (encL (encT encI))) (m_n_orders_by_age a1 a2 (3000 + 1) _) (fun v2 => (g_set (n_nx (r' := [some (encI a0), some ((encT (encT encI)) a1), some ((encT (encP encI encI)) a2), some ((encL (encT encI)) v2)]) (h' := []) rfl rfl rfl (by exact (n_thn (s_seq (s_if (c_pure (t_bl (q_bin (q_call (q_args1 (q_var rfl) q_args0) o_lenL) (q_as (w := encI 3000) q_c rfl) gt_ii)) (c_ite s_stuck (s_nil (n_thn (s_ret (c_pure (q_call (q_args1 (q_var rfl) q_args0) tuple_lst) (run_ret rfl))))))))))))))))))))))))))))
theorem m_n_age_orders (a0 : Int) (a1 : (List (List Int))) (a2 : (List (Int × Int))) (h : PH) : Run (apart d_age_orders [encI a0, (encT (encT encI)) a1, (encT (encP encI encI)) a2] h) (n_age_orders a0 a1 a2) (Xt (encT (encT encI)) fun _ => h) :=
  ap_of (b_n_age_orders a0 a1 a2) (frees_c ((fun z => enc_int.fr z) a0) (frees_c ((fun z => (enc_tup (enc_tup enc_int)).fr z) a1) (frees_c ((fun z => (enc_tup (enc_p enc_int enc_int)).fr z) a2) rfl))) (fun z => (enc_tup (enc_tup enc_int)).fr z)
theorem b_n_stands_ahead (a0 : (List (List Int))) (a1 : Int) (a2 : Int) : Run (d_stands_ahead [(encL (encT encI)) a0, encI a1, encI a2] []) (n_stands_ahead a0 a1 a2) fun z v _ => v = encB z := by
  unfold d_stands_ahead b_stands_ahead n_stands_ahead
  exact d_run (env := [some ((encL (encT encI)) a0), some (encI a1), some (encI a2), none]) rfl (s_ret (c_call (c_args1 (c_frz (c_run (V := fun v9 => List.map encB v9) (r_comp (xs := a0) (c := (encT encI)) (d := encB) (E := fun v5 => [some ((encL (encT encI)) a0), some (encI a1), some (encI a2), some ((encT encI) v5)]) (s_seqL (q_var rfl)) trivial (fun v5 => rfl) (fun v5 => c_id (c_bin (c_idxT (q_var rfl) (c_pure (q_var rfl) (c_lift (v_index (c := encI) (xs := v5) (a := a1) enc_int (by decide)) (fun v6 => (c_idxT (q_var rfl) (c_pure (q_var rfl) (c_lift (v_index (c := encI) (xs := v5) (a := a2) enc_int (by decide)) (fun v7 => (c_liftP (z := encB (decide (v6 < v7))) lt_ii (run_ret ⟨rfl, rfl⟩))))))))))))) (fun v9 => (c_args0 (c_liftP (z := encB (v9.all id)) o_allL (run_ret rfl)))))))))
theorem m_n_stands_ahead (a0 : (List (List Int))) (a1 : Int) (a2 : Int) (h : PH) : Run (apart d_stands_ahead [(encL (encT encI)) a0, encI a1, encI a2] h) (n_stands_ahead a0 a1 a2) (Xt encB fun _ => h) :=
  ap_of (b_n_stands_ahead a0 a1 a2) (frees_c ((fun z => (enc_lst (enc_tup enc_int)).fr z) a0) (frees_c ((fun z => enc_int.fr z) a1) (frees_c ((fun z => enc_int.fr z) a2) rfl))) (fun z => enc_bl.fr z)
theorem b_n_surely_ahead (a0 : Int) (a1 : (List (List Int))) (a2 : (List (Int × Int))) : Run (d_surely_ahead [encI a0, (encT (encT encI)) a1, (encT (encP encI encI)) a2] []) (n_surely_ahead a0 a1 a2) fun z v _ => v = (encT (encP encI encI)) z := by
  unfold d_surely_ahead b_surely_ahead n_surely_ahead
  exact d_run (env := [some (encI a0), some ((encT (encT encI)) a1), some ((encT (encP encI encI)) a2), none, none, none, none]) rfl (s_seq (s_expr (c_callP (c_pure (q_args1 (q_var rfl) (q_args1 (q_var rfl) (q_args1 (q_var rfl) q_args0))) (c_run (V := encN) (m_n_check_told a0 a1 a2 _) (fun v1 => (n_nx (r' := [some (encI a0), some ((encT (encT encI)) a1), some ((encT (encP encI encI)) a2), none, none, none, none]) (h' := []) rfl rfl rfl (by exact (n_thn (s_seq (s_asg (c_callP (c_pure (q_args1 (q_var rfl) (q_args1 (q_var rfl) (q_args1 (q_as (w := encI (3000 + 1)) (q_bin (q_as (w := encI 3000) q_c rfl) q_c add_ii) rfl) q_args0))) (c_run (V := (encL (encT encI))) (m_n_orders_by_age a1 a2 (3000 + 1) _) (fun v2 => (g_set (n_nx (r' := [some (encI a0), some ((encT (encT encI)) a1), some ((encT (encP encI encI)) a2), some ((encL (encT encI)) v2), none, none, none]) (h' := []) rfl rfl rfl (by exact (n_thn (s_seq (s_if (c_pure (t_bl (q_bin (q_call (q_args1 (q_var rfl) q_args0) o_lenL) (q_as (w := encI 3000) q_c rfl) gt_ii)) (c_ite s_stuck (s_nil (n_thn (s_seq (s_asg (c_loc (c_pure (q_as (w := List.map encI []) q_args0 rfl) (g_set (n_nx (r' := [some (encI a0), some ((encT (encT encI)) a1), some ((encT (encP encI encI)) a2), some ((encL (encT encI)) v2), some (.ref 0), none, none]) (h' := [((encL encI) [])]) rfl rfl rfl (by exact (n_thn (s_seq (c_rng (s_rng1 (q_call (q_args1 (q_var rfl) q_args0) o_lenT)) (fun v3 hv3 => (c_run (V := fun (v13 : (List (Int × Int))) => Fl.nx [some (encI a0), some ((encT (encT encI)) a1), some ((encT (encP encI encI)) a2), some ((encL (encT encI)) v2), some (.ref 0), none, none]) (Hh := fun (v13 : (List (Int × Int))) => [((encL (encP encI encI)) v13)]) (r_for (xs := v3) (ca := encI) (S := (List (Int × Int))) (E := fun (v5 : (List (Int × Int))) => [some (encI a0), some ((encT (encT encI)) a1), some ((encT (encP encI encI)) a2), some ((encL (encT encI)) v2), some (.ref 0), none, none]) (Hh := fun (v5 : (List (Int × Int))) => [((encL (encP encI encI)) v5)]) (s0 := []) hv3 rfl rfl (fun _ => trivial) (fun v5 v4 => by exact (g_ok (r' := [some (encI a0), some ((encT (encT encI)) a1), some ((encT (encP encI encI)) a2), some ((encL (encT encI)) v2), some (.ref 0), some (encI v4), none]) rfl (c_id (s_wipe (s_expr (c_met (q_var rfl) rfl (c_args1 (c_frz (c_rng (s_rng1 (q_call (q_args1 (q_var rfl) q_args0) o_lenT)) (fun v6 hv6 => (c_runN (V := fun (v11 : (List (Int × Int)) × Unit) => List.map (encP encI encI) v11.1) (H' := fun (v11 : (List (Int × Int)) × Unit) => [((encL (encP encI encI)) v5)]) (r_compS (S := Unit) (Hh := fun (v8 : Unit) => [((encL (encP encI encI)) v5)]) (s0 := ()) (xs := v6) (c := encI) (d := (encP encI encI)) (E := fun v7 => [some (encI a0), some ((encT (encT encI)) a1), some ((encT (encP encI encI)) a2), some ((encL (encT encI)) v2), some (.ref 0), some (encI v4), some (encI v7)]) hv6 (fun _ => trivial) (fun v8 v7 => rfl) (fun v8 v7 => (c_test (c_runN (V := fun (v10 : Bool) => v10) (H' := fun (v10 : Bool) => [((encL (encP encI encI)) v5)]) (c_id (k_and (c_pure (t_bl (q_bin (q_var rfl) (q_var rfl) ne_ii)) (c_ite (k_val (c_callP (c_pure (q_args1 (q_var rfl) (q_args1 (q_var rfl) (q_args1 (q_var rfl) q_args0))) (c_run (V := encB) (m_n_stands_ahead v2 v4 v7 _) (fun v9 => (k_bl (run_ret ⟨rfl, rfl⟩))))))) (run_ret ⟨rfl, rfl⟩))))) (fun _ => rfl) (fun v10 => (c_ite (c_one (c_pure (q_as (w := (encP encI encI) (v4, v7)) (q_tup (q_args1 (q_var rfl) (q_args1 (q_var rfl) q_args0))) rfl) (run_ret ⟨rfl, rfl⟩))) (run_ret ⟨rfl, rfl⟩))))))) (fun _ => rfl) (fun v11 => (c_args0 (m_op (Z := fun _ => Val.non) (H' := fun (v12 : (List (Int × Int))) => [((encL (encP encI encI)) v12)]) rfl (v_extend (c := (encP encI encI)) (xs := v5) (ys := v11.1)) (fun _ => rfl) (fun v12 => (n_nx (r' := [some (encI a0), some ((encT (encT encI)) a1), some ((encT (encP encI encI)) a2), some ((encL (encT encI)) v2), some (.ref 0), some (encI v4), none]) (h' := [((encL (encP encI encI)) v12)]) rfl rfl rfl (by exact (w_nx (r' := [some (encI a0), some ((encT (encT encI)) a1), some ((encT (encP encI encI)) a2), some ((encL (encT encI)) v2), some (.ref 0), none, none]) rfl (run_ret ⟨.inl rfl, rfl⟩)))))))))))))))))))) (fun v13 => by exact (n_thn (s_ret (c_pure (q_call (q_args1 (q_var rfl) q_args0) (o_tupR rfl)) (run_ret rfl))))))))))))))))))))))))))))))))))))))))))
theorem m_n_surely_ahead (a0 : Int) (a1 : (List (List Int))) (a2 : (List (Int × Int))) (h : PH) : Run (apart d_surely_ahead [encI a0, (encT (encT encI)) a1, (encT (encP encI encI)) a2] h) (n_surely_ahead a0 a1 a2) (Xt (encT (encP encI encI)) fun _ => h) :=
  ap_of (b_n_surely_ahead a0 a1 a2) (frees_c ((fun z => enc_int.fr z) a0) (frees_c ((fun z => (enc_tup (enc_tup enc_int)).fr z) a1) (frees_c ((fun z => (enc_tup (enc_p enc_int enc_int)).fr z) a2) rfl))) (fun z => (enc_tup (enc_p enc_int enc_int)).fr z)
theorem m_n__law_same (a0 : ((List (List Int)) × (List (Int × Int)))) (a1 : ((List (List Int)) × (List (Int × Int)))) (h : PH) : Run (apart d__law_same [(encQ2 (encT (encT encI)) (encT (encP encI encI))) a0, (encQ2 (encT (encT encI)) (encT (encP encI encI))) a1] h) (n__law_same a0 a1) (Xt encB fun _ => h) :=
  is_run (b := isB) isB_step (r := r__law_same) (fun _ => rfl) (c := (encQ2 (encT (encT encI)) (encT (encP encI encI)))) (enc_q2 (enc_tup (enc_tup enc_int)) (enc_tup (enc_p enc_int enc_int))) (is_q2 (is_t (is_t is_i)) (is_t (is_p is_i is_i))) (by decide) a0 a1 h
theorem b_n__law_draw (a0 : ((List Int) × Int × Int × Int × Int)) (a1 : Int) : Run (d__law_draw [.ref 0, encI a1] [(encH (encL encI) encI encI encI encI) a0]) (n__law_draw a0 a1) fun p v h' => v = encI p.1 ∧ ∃ t, h' = (encH (encL encI) encI encI encI encI) p.2 :: t := by
  unfold d__law_draw b__law_draw n__law_draw
  exact d_run (env := [some (.ref 0), some (encI a1), none, none, none]) rfl (s_seq (c_run (V := fun (v2 : ((List Int) × Int × Int × Int × Int)) => Fl.nx [some (.ref 0), some (encI a1), none, none, none]) (Hh := fun (v2 : ((List Int) × Int × Int × Int × Int)) => [((encH (encL encI) encI encI encI encI) v2)]) (by exact c_id (s_if (c_pure (t_and (t_bl (q_bin (q_as (w := encI a0.2.2.1) (q_bin (q_var rfl) q_c (by rfl)) rfl) q_c eq_ii)) (t_bl (q_bin (q_as (w := encI a0.2.1) (q_bin (q_var rfl) q_c (by rfl)) rfl) (q_call (q_args1 (q_as (w := (encL encI) a0.1) (q_bin (q_var rfl) q_c (by rfl)) rfl) q_args0) o_lenL) lt_ii))) (c_ite (s_wipe (s_seq (s_asg (c_bin (c_pure (q_as (w := (encL encI) a0.1) (q_bin (q_var rfl) q_c (by rfl)) rfl) (c_pure (q_as (w := encI a0.2.1) (q_bin (q_var rfl) q_c (by rfl)) rfl) (c_lift (v_idxL (c := encI) (xs := a0.1) (i := a0.2.1)) (fun v1 => (g_set (n_nx (r' := [some (.ref 0), some (encI a1), some (encI v1), none, none]) (h' := [((encH (encL encI) encI encI encI encI) a0)]) rfl rfl rfl (by exact (n_thn (s_seq (s_asg (c_pure (q_bin (q_as (w := encI a0.2.1) (q_bin (q_var rfl) q_c (by rfl)) rfl) q_c add_ii) (g_store (c_pure (q_var rfl) (c_pure q_c (p_put (h' := [((encH (encL encI) encI encI encI encI) (a0.1, (a0.2.1 + 1), a0.2.2.1, a0.2.2.2.1, a0.2.2.2.2))]) rfl (n_nx (r' := [some (.ref 0), some (encI a1), some (encI v1), none, none]) (h' := [((encH (encL encI) encI encI encI encI) (a0.1, (a0.2.1 + 1), a0.2.2.1, a0.2.2.2.1, a0.2.2.2.2))]) rfl rfl rfl (by exact (n_thn (s_seq (s_asg (c_pure (q_bin (q_call (q_args1 (q_bin (q_bin (q_bin (q_as (w := encI a0.2.2.2.1) (q_bin (q_var rfl) q_c (by rfl)) rfl) q_c (o_mulK' (by decide))) (q_bin (q_var rfl) q_c (o_mulK' (by decide))) add_ii) q_c add_ii) q_args0) int_i) q_c (o_modK (by decide))) (g_store (c_pure (q_var rfl) (c_pure q_c (p_put (h' := [((encH (encL encI) encI encI encI encI) (a0.1, (a0.2.1 + 1), a0.2.2.1, ((((a0.2.2.2.1 * 69621) + (v1 * 48271)) + 17) % 2147483629), a0.2.2.2.2))]) rfl (n_nx (r' := [some (.ref 0), some (encI a1), some (encI v1), none, none]) (h' := [((encH (encL encI) encI encI encI encI) (a0.1, (a0.2.1 + 1), a0.2.2.1, ((((a0.2.2.2.1 * 69621) + (v1 * 48271)) + 17) % 2147483629), a0.2.2.2.2))]) rfl rfl rfl (by exact (n_thn (s_if (c_pure (t_bl (q_bin (q_var rfl) (q_as (w := encI 1000000000000000000) (q_bin q_c q_c pow_1018) rfl) ge_ii)) (c_ite (s_asg (c_pure (q_var rfl) (g_store (c_pure (q_var rfl) (c_pure q_c (p_put (h' := [((encH (encL encI) encI encI encI encI) (a0.1, (a0.2.1 + 1), v1, ((((a0.2.2.2.1 * 69621) + (v1 * 48271)) + 17) % 2147483629), a0.2.2.2.2))]) rfl (n_nx (r' := [some (.ref 0), some (encI a1), some (encI v1), none, none]) (h' := [((encH (encL encI) encI encI encI encI) (a0.1, (a0.2.1 + 1), v1, ((((a0.2.2.2.1 * 69621) + (v1 * 48271)) + 17) % 2147483629), a0.2.2.2.2))]) rfl rfl rfl (by exact (w_nx (r' := [some (.ref 0), some (encI a1), none, none, none]) rfl (run_ret ⟨rfl, rfl⟩)))))))))) (s_nil (w_nx (r' := [some (.ref 0), some (encI a1), none, none, none]) rfl (run_ret ⟨rfl, rfl⟩)))))))))))))))))))))))))))))))))))))) (s_wipe (s_nil (w_nx (r' := [some (.ref 0), some (encI a1), none, none, none]) rfl (run_ret ⟨rfl, rfl⟩)))))))) (fun v2 => by exact (n_thn (s_seq (s_if (c_pure (t_bl (q_bin (q_as (w := encI v2.2.2.1) (q_bin (q_var rfl) q_c (by rfl)) rfl) q_c gt_ii)) (c_ite (s_seq (s_asg (c_bin (c_pure (q_call (q_args1 (q_as (w := encI v2.2.2.1) (q_bin (q_var rfl) q_c (by rfl)) rfl) q_args0) int_i) (c_pure (q_var rfl) (c_lift (v_mod (i := v2.2.2.1) (j := a1)) (fun v3 => (g_set (n_nx (r' := [some (.ref 0), some (encI a1), none, some (encI v3), none]) (h' := [((encH (encL encI) encI encI encI encI) v2)]) rfl rfl rfl (by exact (n_thn (s_seq (s_asg (c_bin (c_pure (q_as (w := encI v2.2.2.1) (q_bin (q_var rfl) q_c (by rfl)) rfl) (c_pure (q_var rfl) (c_lift (v_div (i := v2.2.2.1) (j := a1)) (fun v4 => (g_store (c_pure (q_var rfl) (c_pure q_c (p_put (h' := [((encH (encL encI) encI encI encI encI) (v2.1, v2.2.1, v4, v2.2.2.2.1, v2.2.2.2.2))]) rfl (n_nx (r' := [some (.ref 0), some (encI a1), none, some (encI v3), none]) (h' := [((encH (encL encI) encI encI encI encI) (v2.1, v2.2.1, v4, v2.2.2.2.1, v2.2.2.2.2))]) rfl rfl rfl (by exact (n_thn (s_ret (c_pure (q_var rfl) (n_rt (run_ret ⟨rfl, _, rfl⟩))))))))))))))))))))))))))))) (s_nil (n_thn (s_seq (s_asg (c_pure (q_bin (q_as (w := encI v2.2.2.2.2) (q_bin (q_var rfl) q_c (by rfl)) rfl) q_c add_ii) (g_store (c_pure (q_var rfl) (c_pure q_c (p_put (h' := [((encH (encL encI) encI encI encI encI) (v2.1, v2.2.1, v2.2.2.1, v2.2.2.2.1, (v2.2.2.2.2 + 1)))]) rfl (n_nx (r' := [some (.ref 0), some (encI a1), none, none, none]) (h' := [((encH (encL encI) encI encI encI encI) (v2.1, v2.2.1, v2.2.2.1, v2.2.2.2.1, (v2.2.2.2.2 + 1)))]) rfl rfl rfl (by exact (n_thn (s_seq (s_asg (c_gen (v := encI) (X := (((v2.2.2.2.1 + (7919 * (v2.2.2.2.2 + 1))) * 40692) % 2147483647)) (q_bin (q_call (q_args1 (q_bin (q_call (q_args1 (q_bin (q_as (w := encI v2.2.2.2.1) (q_bin (q_var rfl) q_c (by rfl)) rfl) (q_bin q_c (q_as (w := encI (v2.2.2.2.2 + 1)) (q_bin (q_var rfl) q_c (by rfl)) rfl) (o_mulK (by decide))) add_ii) q_args0) int_i) q_c (o_mulK' (by decide))) q_args0) int_i) q_c (o_modK (by decide))) (fun v5 => g_set (n_nx (r' := [some (.ref 0), some (encI a1), none, none, some (encI v5)]) (h' := [((encH (encL encI) encI encI encI encI) (v2.1, v2.2.1, v2.2.2.1, v2.2.2.2.1, (v2.2.2.2.2 + 1)))]) rfl rfl rfl (by exact (n_thn (s_seq (s_asg (c_bin (c_call (c_args1 (c_bin (c_pure (q_var rfl) (c_pure (q_bin (q_bin (q_var rfl) q_c (o_divK (by decide) (by decide))) q_c add_ii) (c_lift (v_mul (i := v5) (j := ((v5 / 1009) + 69621))) (fun v6 => (c_args0 (c_liftP (z := encI v6) int_i (c_pure q_c (c_liftP (z := encI (v6 % 2147483647)) (o_modK (by decide)) (g_set (n_nx (r' := [some (.ref 0), some (encI a1), none, none, some (encI (v6 % 2147483647))]) (h' := [((encH (encL encI) encI encI encI encI) (v2.1, v2.2.1, v2.2.2.1, v2.2.2.2.1, (v2.2.2.2.2 + 1)))]) rfl rfl rfl (by exact (n_thn (s_seq (s_asg (c_bin (c_call (c_args1 (c_bin (c_pure (q_var rfl) (c_pure (q_bin (q_bin (q_var rfl) q_c (o_divK (by decide) (by decide))) q_c add_ii) (c_lift (v_mul (i := (v6 % 2147483647)) (j := (((v6 % 2147483647) / 2003) + 40014))) (fun v7 => (c_args0 (c_liftP (z := encI v7) int_i (c_pure q_c (c_liftP (z := encI (v7 % 2147483563)) (o_modK (by decide)) (g_set (n_nx (r' := [some (.ref 0), some (encI a1), none, none, some (encI (v7 % 2147483563))]) (h' := [((encH (encL encI) encI encI encI encI) (v2.1, v2.2.1, v2.2.2.1, v2.2.2.2.1, (v2.2.2.2.2 + 1)))]) rfl rfl rfl (by exact (n_thn (s_ret (c_bin (c_pure (q_call (q_args1 (q_bin (q_var rfl) q_c (o_divK (by decide) (by decide))) q_args0) int_i) (c_pure (q_var rfl) (c_lift (v_mod (i := ((v7 % 2147483563) / 16)) (j := a1)) (fun v8 => (run_ret ⟨rfl, _, rfl⟩))))))))))))))))))))))))))))))))))))))))))))))))))))))))))))))))))))))
theorem m_n__law_draw (a0 : ((List Int) × Int × Int × Int × Int)) (a1 : Int) (l : Nat) (h : PH) (hl : h[l]? = some ((encH (encL encI) encI encI encI encI) a0)) : Run (apart1 d__law_draw [.ref l, encI a1] h) (n__law_draw a0 a1).nx (Xt (fun p => encI p.1) fun p => h.set l ((encH (encL encI) encI encI encI encI) p.2)) :=
  ap1_of (eH := (encH (encL encI) encI encI encI encI)) (enc := encI) (s := a0) (ws := [.ref 0, encI a1]) (ref1_h (frees_c ((fun z => enc_int.fr z) a1) rfl)) hl (fun s => ⟨(free_H (enc_lst enc_int) enc_int enc_int enc_int enc_int) s, rfl⟩) (fun z => enc_int.fr z) (b_n__law_draw a0 a1)
theorem b_n__law_any (a0 : ((List Int) × Int × Int × Int × Int)) (a1 : (List Int)) : Run (d__law_any [.ref 0, (encL encI) a1] [(encH (encL encI) encI encI encI encI) a0]) (n__law_any a0 a1) fun p v h' => v = encI p.1 ∧ ∃ t, h' = (encH (encL encI) encI encI encI encI) p.2 :: t := by
  unfold d__law_any b__law_any n__law_any
  exact d_run (env := [some (.ref 0), some ((encL encI) a1)]) rfl (s_ret (c_bin (c_pure (q_var rfl) (c_call1 (c_pure (q_args1 (q_var rfl) (q_args1 (q_call (q_args1 (q_var rfl) q_args0) o_lenL) q_args0)) (c_runN (V := fun (v1 : Int × ((List Int) × Int × Int × Int × Int)) => encI v1.1) (H' := fun (v1 : Int × ((List Int) × Int × Int × Int × Int)) => [((encH (encL encI) encI encI encI encI) v1.2)]) (m_n__law_draw a0 ((a1.length : Nat) : Int) 0 _ rfl) (fun _ => rfl) (fun v1 => (c_lift (v_idxL (c := encI) (xs := a1) (i := v1.1)) (fun v2 => (run_ret ⟨rfl, _, rfl⟩))))))))))
theorem m_n__law_any (a0 : ((List Int) × Int × Int × Int × Int)) (a1 : (List Int)) (l : Nat) (h : PH) (hl : h[l]? = some ((encH (encL encI) encI encI encI encI) a0)) : Run (apart1 d__law_any [.ref l, (encL encI) a1] h) (n__law_any a0 a1).nx (Xt (fun p => encI p.1) fun p => h.set l ((encH (encL encI) encI encI encI encI) p.2)) :=
  ap1_of (eH := (encH (encL encI) encI encI encI encI)) (enc := encI) (s := a0) (ws := [.ref 0, (encL encI) a1]) (ref1_h (frees_c ((fun z => (enc_lst enc_int).fr z) a1) rfl)) hl (fun s => ⟨(free_H (enc_lst enc_int) enc_int enc_int enc_int enc_int) s, rfl⟩) (fun z => enc_int.fr z) (b_n__law_any a0 a1)
theorem b_n__law_mixed (a0 : ((List Int) × Int × Int × Int × Int)) (a1 : (List Int)) : Run (d__law_mixed [.ref 0, (encL encI) a1] [(encH (encL encI) encI encI encI encI) a0]) (n__law_mixed a0 a1) fun p v h' => v = (encL encI) p.1 ∧ ∃ t, h' = (encH (encL encI) encI encI encI encI) p.2 :: t := by
  unfold d__law_mixed b__law_mixed n__law_mixed
  exact d_run (env := [some (.ref 0), some ((encL encI) a1), none, none]) rfl (s_seq (s_par (c_args1 (c_loc (c_pure (q_callN (q_args1 (q_var rfl) q_args0) o_listL) (c_args1 (c_loc (c_pure (q_as (w := List.map encI []) q_args0 rfl) (c_args0 (n_two (n_nx (r' := [some (.ref 0), some ((encL encI) a1), some (.ref 1), some (.ref 2)]) (h' := [((encH (encL encI) encI encI encI encI) a0), ((encL encI) a1), ((encL encI) [])]) rfl rfl rfl (by exact (n_thn (s_seq (c_run (V := fun (v5 : ((List Int) × Int × Int × Int × Int) × (List Int) × (List Int)) => Fl.nx [some (.ref 0), some ((encL encI) a1), some (.ref 1), some (.ref 2)]) (Hh := fun (v5 : ((List Int) × Int × Int × Int × Int) × (List Int) × (List Int)) => [((encH (encL encI) encI encI encI encI) v5.1), ((encL encI) v5.2.1), ((encL encI) v5.2.2)]) (r_wh (S := ((List Int) × Int × Int × Int × Int) × (List Int) × (List Int)) (E := fun (v1 : ((List Int) × Int × Int × Int × Int) × (List Int) × (List Int)) => [some (.ref 0), some ((encL encI) a1), some (.ref 1), some (.ref 2)]) (Hh := fun (v1 : ((List Int) × Int × Int × Int × Int) × (List Int) × (List Int)) => [((encH (encL encI) encI encI encI encI) v1.1), ((encL encI) v1.2.1), ((encL encI) v1.2.2)]) (s0 := (a0, a1, [])) rfl rfl (fun v1 => by exact c_id (c_pure (t_bl (q_bin (q_call (q_args1 (q_var rfl) q_args0) (o_lenR rfl)) q_c gt_ii)) (run_ret ⟨rfl, rfl⟩))) (fun v1 => by exact (c_id (s_wipe (s_expr (c_met (q_var rfl) rfl (c_args1 (c_met (q_var rfl) rfl (c_args1 (c_call1 (c_pure (q_args1 (q_var rfl) (q_args1 (q_call (q_args1 (q_var rfl) q_args0) (o_lenR rfl)) q_args0)) (c_runN (V := fun (v2 : Int × ((List Int) × Int × Int × Int × Int)) => encI v2.1) (H' := fun (v2 : Int × ((List Int) × Int × Int × Int × Int)) => [((encH (encL encI) encI encI encI encI) v2.2), ((encL encI) v1.2.1), ((encL encI) v1.2.2)]) (m_n__law_draw v1.1 ((v1.2.1.length : Nat) : Int) 0 _ rfl) (fun _ => rfl) (fun v2 => (c_args0 (m_op (Z := fun (v3 : (List Int) × Int) => encI v3.2) (H' := fun (v3 : (List Int) × Int) => [((encH (encL encI) encI encI encI encI) v2.2), ((encL encI) v3.1), ((encL encI) v1.2.2)]) rfl (v_popAt (c := encI) (xs := v1.2.1) (i := v2.1)) (fun _ => rfl) (fun v3 => (c_args0 (m_op (Z := fun _ => Val.non) (H' := fun (v4 : (List Int)) => [((encH (encL encI) encI encI encI encI) v2.2), ((encL encI) v3.1), ((encL encI) v4)]) rfl (v_append (c := encI) (xs := v1.2.2) (x := v3.2)) (fun _ => rfl) (fun v4 => (n_nx (r' := [some (.ref 0), some ((encL encI) a1), some (.ref 1), some (.ref 2)]) (h' := [((encH (encL encI) encI encI encI encI) v2.2), ((encL encI) v3.1), ((encL encI) v4)]) rfl rfl rfl (by exact (w_nx (r' := [some (.ref 0), some ((encL encI) a1), some (.ref 1), some (.ref 2)]) rfl (run_ret ⟨.inl rfl, rfl⟩))))))))))))))))))))))) (fun v5 => by exact (n_thn (s_ret (c_mv (q_move rfl rfl) rfl (run_ret ⟨rfl, _, rfl⟩))))))))))))))))))))
theorem m_n__law_mixed (a0 : ((List Int) × Int × Int × Int × Int)) (a1 : (List Int)) (l : Nat) (h : PH) (hl : h[l]? = some ((encH (encL encI) encI encI encI encI) a0)) : Run (apart1 d__law_mixed [.ref l, (encL encI) a1] h) (n__law_mixed a0 a1).nx (Xt (fun p => (encL encI) p.1) fun p => h.set l ((encH (encL encI) encI encI encI encI) p.2)) :=
  ap1_of (eH := (encH (encL encI) encI encI encI encI)) (enc := (encL encI)) (s := a0) (ws := [.ref 0, (encL encI) a1]) (ref1_h (frees_c ((fun z => (enc_lst enc_int).fr z) a1) rfl)) hl (fun s => ⟨(free_H (enc_lst enc_int) enc_int enc_int enc_int enc_int) s, rfl⟩) (fun z => (enc_lst enc_int).fr z) (b_n__law_mixed a0 a1)
theorem b_n__law_finds (a0 : ((List Int) × Int × Int × Int × Int)) (a1 : Int) : Run (d__law_finds [.ref 0, encI a1] [(encH (encL encI) encI encI encI encI) a0]) (n__law_finds a0 a1) fun p v h' => v = (encP encI (encT (encT encI))) p.1 ∧ ∃ t, h' = (encH (encL encI) encI encI encI encI) p.2 :: t := by
  unfold d__law_finds b__law_finds n__law_finds
  exact d_run (env := [some (.ref 0), some (encI a1), none, none, none, none, none, none, none, none, none, none]) rfl (s_seq (s_asg (c_tup (c_args1 (c_bin (c_pure q_c (c_call1 (c_pure (q_args1 (q_var rfl) (q_args1 (q_frz (q_as (w := List.map encI [0, 1, 2, 3, 4, 4]) (q_args1 q_c (q_args1 q_c (q_args1 q_c (q_args1 q_c (q_args1 q_c (q_args1 q_c q_args0)))))) rfl)) q_args0)) (c_runN (V := fun (v1 : Int × ((List Int) × Int × Int × Int × Int)) => encI v1.1) (H' := fun (v1 : Int × ((List Int) × Int × Int × Int × Int)) => [((encH (encL encI) encI encI encI encI) v1.2)]) (m_n__law_any a0 [0, 1, 2, 3, 4, 4] 0 _ rfl) (fun _ => rfl) (fun v1 => (c_liftP (z := encI (1 + v1.1)) add_ii (c_args1 (c_call (c_args1 (c_pure q_c (c_args1 (c_bin (c_pure (q_var rfl) (c_call1 (c_pure (q_args1 (q_var rfl) (q_args1 (q_frz (q_as (w := List.map encI [0, 0, 0, 1, 1, 2, 4]) (q_args1 q_c (q_args1 q_c (q_args1 q_c (q_args1 q_c (q_args1 q_c (q_args1 q_c (q_args1 q_c q_args0))))))) rfl)) q_args0)) (c_runN (V := fun (v2 : Int × ((List Int) × Int × Int × Int × Int)) => encI v2.1) (H' := fun (v2 : Int × ((List Int) × Int × Int × Int × Int)) => [((encH (encL encI) encI encI encI encI) v2.2)]) (m_n__law_any v1.2 [0, 0, 0, 1, 1, 2, 4] 0 _ rfl) (fun _ => rfl) (fun v2 => (c_liftP (z := encI (a1 - v2.1)) sub_ii (c_args0 (c_liftP (z := encI (max2 1 (a1 - v2.1))) o_max2 (c_args1 (c_loc (c_pure (q_as (w := List.map encI []) q_args0 rfl) (c_args0 (g_ok (r' := [some (.ref 0), some (encI a1), some (encI (1 + v1.1)), some (encI (max2 1 (a1 - v2.1))), some (.ref 1), none, none, none, none, none, none, none]) rfl (n_nx (r' := [some (.ref 0), some (encI a1), some (encI (1 + v1.1)), some (encI (max2 1 (a1 - v2.1))), some (.ref 1), none, none, none, none, none, none, none]) (h' := [((encH (encL encI) encI encI encI encI) v2.2), ((encL encI) [])]) rfl rfl rfl (by exact (n_thn (s_seq (s_if (k_val (c_bin (c_call1 (c_pure (q_args1 (q_var rfl) (q_args1 q_c q_args0)) (c_runN (V := fun (v3 : Int × ((List Int) × Int × Int × Int × Int)) => encI v3.1) (H' := fun (v3 : Int × ((List Int) × Int × Int × Int × Int)) => [((encH (encL encI) encI encI encI encI) v3.2), ((encL encI) [])]) (m_n__law_draw v2.2 2 0 _ rfl) (fun _ => rfl) (fun v3 => (c_pure q_c (c_liftP (z := encB (decide (v3.1 = 0))) eq_ii (k_bl (c_ite (s_seq (c_rng (s_rng1 (q_var rfl)) (fun v4 hv4 => (c_run (V := fun (v13 : ((List Int) × Int × Int × Int × Int) × (List (List Int))) => Fl.nx [some (.ref 0), some (encI a1), some (encI (1 + v1.1)), some (encI (max2 1 (a1 - v2.1))), some (.ref 1), none, none, none, none, none, none, none]) (Hh := fun (v13 : ((List Int) × Int × Int × Int × Int) × (List (List Int))) => [((encH (encL encI) encI encI encI encI) v13.1), ((encL (encT encI)) v13.2)]) (r_for (xs := v4) (ca := encI) (S := ((List Int) × Int × Int × Int × Int) × (List (List Int))) (E := fun (v6 : ((List Int) × Int × Int × Int × Int) × (List (List Int))) => [some (.ref 0), some (encI a1), some (encI (1 + v1.1)), some (encI (max2 1 (a1 - v2.1))), some (.ref 1), none, none, none, none, none, none, none]) (Hh := fun (v6 : ((List Int) × Int × Int × Int × Int) × (List (List Int))) => [((encH (encL encI) encI encI encI encI) v6.1), ((encL (encT encI)) v6.2)]) (s0 := (v3.2, [])) hv4 rfl rfl (fun _ => trivial) (fun v6 v5 => by exact (g_ok (r' := [some (.ref 0), some (encI a1), some (encI (1 + v1.1)), some (encI (max2 1 (a1 - v2.1))), some (.ref 1), some (encI v5), none, none, none, none, none, none]) rfl (c_id (s_wipe (s_expr (c_met (q_var rfl) rfl (c_args1 (c_call (c_args1 (c_frz (c_rng (s_rng1 (q_var rfl)) (fun v7 hv7 => (c_runN (V := fun (v11 : (List Int) × ((List Int) × Int × Int × Int × Int)) => List.map encI v11.1) (H' := fun (v11 : (List Int) × ((List Int) × Int × Int × Int × Int)) => [((encH (encL encI) encI encI encI encI) v11.2), ((encL (encT encI)) v6.2)]) (r_compS (S := ((List Int) × Int × Int × Int × Int)) (Hh := fun (v9 : ((List Int) × Int × Int × Int × Int)) => [((encH (encL encI) encI encI encI encI) v9), ((encL (encT encI)) v6.2)]) (s0 := v6.1) (xs := v7) (c := encI) (d := encI) (E := fun v8 => [some (.ref 0), some (encI a1), some (encI (1 + v1.1)), some (encI (max2 1 (a1 - v2.1))), some (.ref 1), some (encI v5), some (encI v8), none, none, none, none, none]) hv7 (fun _ => trivial) (fun v9 v8 => rfl) (fun v9 v8 => (c_test (k_val (c_bin (c_call1 (c_pure (q_args1 (q_var rfl) (q_args1 q_c q_args0)) (c_runN (V := fun (v10 : Int × ((List Int) × Int × Int × Int × Int)) => encI v10.1) (H' := fun (v10 : Int × ((List Int) × Int × Int × Int × Int)) => [((encH (encL encI) encI encI encI encI) v10.2), ((encL (encT encI)) v6.2)]) (m_n__law_draw v9 3 0 _ rfl) (fun _ => rfl) (fun v10 => (c_pure q_c (c_liftP (z := encB (decide (v10.1 = 0))) eq_ii (k_bl (c_ite (c_one (c_pure (q_var rfl) (run_ret ⟨rfl, rfl⟩))) (run_ret ⟨rfl, rfl⟩)))))))))))))) (fun _ => rfl) (fun v11 => (c_args0 (c_liftP (z := (encT encI) v11.1) tuple_lst (c_args0 (m_op (Z := fun _ => Val.non) (H' := fun (v12 : (List (List Int))) => [((encH (encL encI) encI encI encI encI) v11.2), ((encL (encT encI)) v12)]) rfl (v_append (c := (encT encI)) (xs := v6.2) (x := v11.1)) (fun _ => rfl) (fun v12 => (n_nx (r' := [some (.ref 0), some (encI a1), some (encI (1 + v1.1)), some (encI (max2 1 (a1 - v2.1))), some (.ref 1), some (encI v5), none, none, none, none, none, none]) (h' := [((encH (encL encI) encI encI encI encI) v11.2), ((encL (encT encI)) v12)]) rfl rfl rfl (by exact (w_nx (r' := [some (.ref 0), some (encI a1), some (encI (1 + v1.1)), some (encI (max2 1 (a1 - v2.1))), some (.ref 1), none, none, none, none, none, none, none]) rfl (run_ret ⟨.inl rfl, rfl⟩)))))))))))))))))))))))) (fun v13 => by exact (n_thn (s_ret (c_pure (q_as (w := (encP encI (encT (encT encI))) ((1 + v1.1), v13.2)) (q_tup (q_args1 (q_var rfl) (q_args1 (q_call (q_args1 (q_var rfl) q_args0) (o_tupR rfl)) q_args0))) rfl) (n_rt (run_ret ⟨rfl, _, rfl⟩)))))))))) (s_nil (n_thn (s_seq (s_asg (c_loc (c_pure (q_as (w := List.map encI []) q_args0 rfl) (g_set (n_nx (r' := [some (.ref 0), some (encI a1), some (encI (1 + v1.1)), some (encI (max2 1 (a1 - v2.1))), some (.ref 1), none, none, some (.ref 2), none, none, none, none]) (h' := [((encH (encL encI) encI encI encI encI) v3.2), ((encL encI) []), ((encL encI) [])]) rfl rfl rfl (by exact (n_thn (s_seq (c_rng (s_rng1 (q_var rfl)) (fun v14 hv14 => (c_run (V := fun (v20 : ((List Int) × Int × Int × Int × Int) × (List (Int × Int))) => Fl.nx [some (.ref 0), some (encI a1), some (encI (1 + v1.1)), some (encI (max2 1 (a1 - v2.1))), some (.ref 1), none, none, some (.ref 2), none, none, none, none]) (Hh := fun (v20 : ((List Int) × Int × Int × Int × Int) × (List (Int × Int))) => [((encH (encL encI) encI encI encI encI) v20.1), ((encL encI) []), ((encL (encP encI encI)) v20.2)]) (r_for (xs := v14) (ca := encI) (S := ((List Int) × Int × Int × Int × Int) × (List (Int × Int))) (E := fun (v16 : ((List Int) × Int × Int × Int × Int) × (List (Int × Int))) => [some (.ref 0), some (encI a1), some (encI (1 + v1.1)), some (encI (max2 1 (a1 - v2.1))), some (.ref 1), none, none, some (.ref 2), none, none, none, none]) (Hh := fun (v16 : ((List Int) × Int × Int × Int × Int) × (List (Int × Int))) => [((encH (encL encI) encI encI encI encI) v16.1), ((encL encI) []), ((encL (encP encI encI)) v16.2)]) (s0 := (v3.2, [])) hv14 rfl rfl (fun _ => trivial) (fun v16 v15 => by exact (g_ok (r' := [some (.ref 0), some (encI a1), some (encI (1 + v1.1)), some (encI (max2 1 (a1 - v2.1))), some (.ref 1), none, some (encI v15), some (.ref 2), none, none, none, none]) rfl (c_id (s_wipe (s_seq (s_asg (c_call1 (c_pure (q_args1 (q_var rfl) (q_args1 (q_var rfl) q_args0)) (c_runN (V := fun (v17 : Int × ((List Int) × Int × Int × Int × Int)) => encI v17.1) (H' := fun (v17 : Int × ((List Int) × Int × Int × Int × Int)) => [((encH (encL encI) encI encI encI encI) v17.2), ((encL encI) []), ((encL (encP encI encI)) v16.2)]) (m_n__law_draw v16.1 (max2 1 (a1 - v2.1)) 0 _ rfl) (fun _ => rfl) (fun v17 => (g_set (n_nx (r' := [some (.ref 0), some (encI a1), some (encI (1 + v1.1)), some (encI (max2 1 (a1 - v2.1))), some (.ref 1), none, some (encI v15), some (.ref 2), some (encI v17.1), none, none, none]) (h' := [((encH (encL encI) encI encI encI encI) v17.2), ((encL encI) []), ((encL (encP encI encI)) v16.2)]) rfl rfl rfl (by exact (n_thn (s_expr (c_met (q_var rfl) rfl (c_args1 (c_tup (c_args1 (c_pure (q_var rfl) (c_args1 (c_bin (c_pure (q_var rfl) (c_call1 (c_pure (q_args1 (q_var rfl) (q_args1 q_c q_args0)) (c_runN (V := fun (v18 : Int × ((List Int) × Int × Int × Int × Int)) => encI v18.1) (H' := fun (v18 : Int × ((List Int) × Int × Int × Int × Int)) => [((encH (encL encI) encI encI encI encI) v18.2), ((encL encI) []), ((encL (encP encI encI)) v16.2)]) (m_n__law_draw v17.2 3 0 _ rfl) (fun _ => rfl) (fun v18 => (c_liftP (z := encI (v17.1 + v18.1)) add_ii (c_args0 (c_args0 (m_op (Z := fun _ => Val.non) (H' := fun (v19 : (List (Int × Int))) => [((encH (encL encI) encI encI encI encI) v18.2), ((encL encI) []), ((encL (encP encI encI)) v19)]) rfl (v_append (c := (encP encI encI)) (xs := v16.2) (x := (v17.1, (v17.1 + v18.1)))) (fun _ => rfl) (fun v19 => (n_nx (r' := [some (.ref 0), some (encI a1), some (encI (1 + v1.1)), some (encI (max2 1 (a1 - v2.1))), some (.ref 1), none, some (encI v15), some (.ref 2), some (encI v17.1), none, none, none]) (h' := [((encH (encL encI) encI encI encI encI) v18.2), ((encL encI) []), ((encL (encP encI encI)) v19)]) rfl rfl rfl (by exact (w_nx (r' := [some (.ref 0), some (encI a1), some (encI (1 + v1.1)), some (encI (max2 1 (a1 - v2.1))), some (.ref 1), none, none, some (.ref 2), none, none, none, none]) rfl (run_ret ⟨.inl rfl, rfl⟩))))))))))))))))))))))))))))))))))))) (fun v20 => by exact (n_thn (s_seq (s_asg (c_call1 (c_args1 (c_pure (q_var rfl) (c_args1 (c_frz (n_rg1 (q_var rfl) (fun v21 => (c_args0 (c_runN (V := fun (v22 : (List Int) × ((List Int) × Int × Int × Int × Int)) => (encL encI) v22.1) (H' := fun (v22 : (List Int) × ((List Int) × Int × Int × Int × Int)) => [((encH (encL encI) encI encI encI encI) v22.2), ((encL encI) []), ((encL (encP encI encI)) v20.2)]) (m_n__law_mixed v20.1 v21 0 _ rfl) (fun _ => rfl) (fun v22 => (g_set (n_nx (r' := [some (.ref 0), some (encI a1), some (encI (1 + v1.1)), some (encI (max2 1 (a1 - v2.1))), some (.ref 1), none, none, some (.ref 2), none, some ((encL encI) v22.1), none, none]) (h' := [((encH (encL encI) encI encI encI encI) v22.2), ((encL encI) []), ((encL (encP encI encI)) v20.2)]) rfl rfl rfl (by exact (n_thn (s_seq (s_pre (r' := [some (.ref 0), some (encI a1), some (encI (1 + v1.1)), some (encI (max2 1 (a1 - v2.1))), some (.ref 1), none, none, some (.ref 2), none, some ((encL encI) v22.1), none, none]) rfl (c_rng (s_rng1 (q_var rfl)) (fun v23 hv23 => (c_run (V := fun (v35 : (List (List Int))) => Fl.nx [some (.ref 0), some (encI a1), some (encI (1 + v1.1)), some (encI (max2 1 (a1 - v2.1))), some (.ref 1), none, none, some (.ref 2), none, some ((encL encI) v22.1), none, none]) (Hh := fun (v35 : (List (List Int))) => [((encH (encL encI) encI encI encI encI) v22.2), ((encL (encT encI)) v35), ((encL (encP encI encI)) v20.2)]) (r_for (xs := v23) (ca := encI) (S := (List (List Int))) (E := fun (v25 : (List (List Int))) => [some (.ref 0), some (encI a1), some (encI (1 + v1.1)), some (encI (max2 1 (a1 - v2.1))), some (.ref 1), none, none, some (.ref 2), none, some ((encL encI) v22.1), none, none]) (Hh := fun (v25 : (List (List Int))) => [((encH (encL encI) encI encI encI encI) v22.2), ((encL (encT encI)) v25), ((encL (encP encI encI)) v20.2)]) (s0 := []) hv23 rfl rfl (fun _ => trivial) (fun v25 v24 => by exact (g_ok (r' := [some (.ref 0), some (encI a1), some (encI (1 + v1.1)), some (encI (max2 1 (a1 - v2.1))), some (.ref 1), some (encI v24), none, some (.ref 2), none, some ((encL encI) v22.1), none, none]) rfl (c_id (s_wipe (s_expr (c_met (q_var rfl) rfl (c_args1 (c_call (c_args1 (c_frz (c_rng (s_rng1 (q_var rfl)) (fun v26 hv26 => (c_runN (V := fun (v33 : (List Int) × Unit) => List.map encI v33.1) (H' := fun (v33 : (List Int) × Unit) => [((encH (encL encI) encI encI encI encI) v22.2), ((encL (encT encI)) v25), ((encL (encP encI encI)) v20.2)]) (r_compS (S := Unit) (Hh := fun (v28 : Unit) => [((encH (encL encI) encI encI encI encI) v22.2), ((encL (encT encI)) v25), ((encL (encP encI encI)) v20.2)]) (s0 := ()) (xs := v26) (c := encI) (d := encI) (E := fun v27 => [some (.ref 0), some (encI a1), some (encI (1 + v1.1)), some (encI (max2 1 (a1 - v2.1))), some (.ref 1), some (encI v24), some (encI v27), some (.ref 2), none, some ((encL encI) v22.1), none, none]) hv26 (fun _ => trivial) (fun v28 v27 => rfl) (fun v28 v27 => (c_test (k_val (c_runN (V := fun (v32 : Bool) => encB v32) (H' := fun (v32 : Bool) => [((encH (encL encI) encI encI encI encI) v22.2), ((encL (encT encI)) v25), ((encL (encP encI encI)) v20.2)]) (c_id (c_chain (c_bin (c_bin (c_pure (q_var rfl) (c_pure (q_var rfl) (c_lift (v_idxR (c := (encP encI encI)) (xs := v20.2) (i := v27) rfl) (fun v29 => (c_pure q_c (c_liftP (z := encI v29.1) (by rfl) (c_bin (c_pure (q_var rfl) (c_pure (q_var rfl) (c_lift (v_idxL (c := encI) (xs := v22.1) (i := v24)) (fun v30 => (c_liftP (z := encB (decide (v29.1 ≤ v30))) le_ii (c_andB (c_bin (c_bin (c_pure (q_var rfl) (c_pure (q_var rfl) (c_lift (v_idxR (c := (encP encI encI)) (xs := v20.2) (i := v27) rfl) (fun v31 => (c_pure q_c (c_liftP (z := encI v31.2) (by rfl) (c_liftP (z := encB (decide (v30 ≤ v31.2))) le_ii (run_ret ⟨rfl, rfl⟩)))))))))) (run_ret ⟨rfl, rfl⟩)))))))))))))))))) (fun _ => rfl) (fun v32 => (k_bl (c_ite (c_one (c_pure (q_var rfl) (run_ret ⟨rfl, rfl⟩))) (run_ret ⟨rfl, rfl⟩))))))))) (fun _ => rfl) (fun v33 => (c_args0 (c_liftP (z := (encT encI) v33.1) tuple_lst (c_args0 (m_op (Z := fun _ => Val.non) (H' := fun (v34 : (List (List Int))) => [((encH (encL encI) encI encI encI encI) v22.2), ((encL (encT encI)) v34), ((encL (encP encI encI)) v20.2)]) rfl (v_append (c := (encT encI)) (xs := v25) (x := v33.1)) (fun _ => rfl) (fun v34 => (n_nx (r' := [some (.ref 0), some (encI a1), some (encI (1 + v1.1)), some (encI (max2 1 (a1 - v2.1))), some (.ref 1), some (encI v24), none, some (.ref 2), none, some ((encL encI) v22.1), none, none]) (h' := [((encH (encL encI) encI encI encI encI) v22.2), ((encL (encT encI)) v34), ((encL (encP encI encI)) v20.2)]) rfl rfl rfl (by exact (w_nx (r' := [some (.ref 0), some (encI a1), some (encI (1 + v1.1)), some (encI (max2 1 (a1 - v2.1))), some (.ref 1), none, none, some (.ref 2), none, some ((encL encI) v22.1), none, none]) rfl (run_ret ⟨.inl rfl, rfl⟩)))))))))))))))))))))))) (fun v35 => by exact (n_thn (s_seq (c_run (V := fun (v45 : ((List Int) × Int × Int × Int × Int) × (List (List Int))) => Fl.nx [some (.ref 0), some (encI a1), some (encI (1 + v1.1)), some (encI (max2 1 (a1 - v2.1))), some (.ref 1), none, none, some (.ref 2), none, some ((encL encI) v22.1), none, none]) (Hh := fun (v45 : ((List Int) × Int × Int × Int × Int) × (List (List Int))) => [((encH (encL encI) encI encI encI encI) v45.1), ((encL (encT encI)) v45.2), ((encL (encP encI encI)) v20.2)]) (by exact c_id (s_if (k_val (c_bin (c_call1 (c_pure (q_args1 (q_var rfl) (q_args1 q_c q_args0)) (c_runN (V := fun (v36 : Int × ((List Int) × Int × Int × Int × Int)) => encI v36.1) (H' := fun (v36 : Int × ((List Int) × Int × Int × Int × Int)) => [((encH (encL encI) encI encI encI encI) v36.2), ((encL (encT encI)) v35), ((encL (encP encI encI)) v20.2)]) (m_n__law_draw v22.2 4 0 _ rfl) (fun _ => rfl) (fun v36 => (c_pure q_c (c_liftP (z := encB (decide (v36.1 = 0))) eq_ii (k_bl (c_ite (s_wipe (s_seq (s_asg (c_tup (c_args1 (c_call1 (c_pure (q_args1 (q_var rfl) (q_args1 (q_var rfl) q_args0)) (c_runN (V := fun (v37 : Int × ((List Int) × Int × Int × Int × Int)) => encI v37.1) (H' := fun (v37 : Int × ((List Int) × Int × Int × Int × Int)) => [((encH (encL encI) encI encI encI encI) v37.2), ((encL (encT encI)) v35), ((encL (encP encI encI)) v20.2)]) (m_n__law_draw v36.2 (max2 1 (a1 - v2.1)) 0 _ rfl) (fun _ => rfl) (fun v37 => (c_args1 (c_call1 (c_pure (q_args1 (q_var rfl) (q_args1 (q_var rfl) q_args0)) (c_runN (V := fun (v38 : Int × ((List Int) × Int × Int × Int × Int)) => encI v38.1) (H' := fun (v38 : Int × ((List Int) × Int × Int × Int × Int)) => [((encH (encL encI) encI encI encI encI) v38.2), ((encL (encT encI)) v35), ((encL (encP encI encI)) v20.2)]) (m_n__law_draw v37.2 (1 + v1.1) 0 _ rfl) (fun _ => rfl) (fun v38 => (c_args0 (g_ok (r' := [some (.ref 0), some (encI a1), some (encI (1 + v1.1)), some (encI (max2 1 (a1 - v2.1))), some (.ref 1), none, some (encI v38.1), some (.ref 2), none, some ((encL encI) v22.1), some (encI v37.1), none]) rfl (n_nx (r' := [some (.ref 0), some (encI a1), some (encI (1 + v1.1)), some (encI (max2 1 (a1 - v2.1))), some (.ref 1), none, some (encI v38.1), some (.ref 2), none, some ((encL encI) v22.1), some (encI v37.1), none]) (h' := [((encH (encL encI) encI encI encI encI) v38.2), ((encL (encT encI)) v35), ((encL (encP encI encI)) v20.2)]) rfl rfl rfl (by exact (n_thn (s_asg (c_call (c_args1 (c_frz (c_rng (s_rng1 (q_var rfl)) (fun v39 hv39 => (c_runN (V := fun (v43 : (List Int) × Unit) => List.map encI v43.1) (H' := fun (v43 : (List Int) × Unit) => [((encH (encL encI) encI encI encI encI) v38.2), ((encL (encT encI)) v35), ((encL (encP encI encI)) v20.2)]) (r_compS (S := Unit) (Hh := fun (v41 : Unit) => [((encH (encL encI) encI encI encI encI) v38.2), ((encL (encT encI)) v35), ((encL (encP encI encI)) v20.2)]) (s0 := ()) (xs := v39) (c := encI) (d := encI) (E := fun v40 => [some (.ref 0), some (encI a1), some (encI (1 + v1.1)), some (encI (max2 1 (a1 - v2.1))), some (.ref 1), none, some (encI v38.1), some (.ref 2), none, some ((encL encI) v22.1), some (encI v37.1), some (encI v40)]) hv39 (fun _ => trivial) (fun v41 v40 => rfl) (fun v41 v40 => (c_test (k_val (c_bin (c_bin (c_pure (q_var rfl) (c_bin (c_pure (q_var rfl) (c_pure (q_var rfl) (c_lift (v_idxR (c := (encT encI)) (xs := v35) (i := v37.1) rfl) (fun v42 => (c_liftP (z := encB (decide (v40 ∈ v42))) (o_inT (a := v40) (xs := v42) enc_int (by decide)) (c_pure (q_bin (q_var rfl) (q_var rfl) eq_ii) (c_liftP (z := encB (!(decide ((decide (v40 ∈ v42)) = (decide (v40 = v38.1)))))) (o_ne (a := (decide (v40 ∈ v42))) (b := (decide (v40 = v38.1))) enc_bl (by decide)) (k_bl (c_ite (c_one (c_pure (q_var rfl) (run_ret ⟨rfl, rfl⟩))) (run_ret ⟨rfl, rfl⟩)))))))))))))))))) (fun _ => rfl) (fun v43 => (c_args0 (c_liftP (z := (encT encI) v43.1) tuple_lst (g_store (c_pure (q_var rfl) (c_pure (q_var rfl) (p_putR (c := (encT encI)) (a := v43.1) (H' := fun v44 => [((encH (encL encI) encI encI encI encI) v38.2), ((encL (encT encI)) v44), ((encL (encP encI encI)) v20.2)]) rfl (fun _ => rfl) (fun v44 => (n_nx (r' := [some (.ref 0), some (encI a1), some (encI (1 + v1.1)), some (encI (max2 1 (a1 - v2.1))), some (.ref 1), none, some (encI v38.1), some (.ref 2), none, some ((encL encI) v22.1), some (encI v37.1), none]) (h' := [((encH (encL encI) encI encI encI encI) v38.2), ((encL (encT encI)) v44), ((encL (encP encI encI)) v20.2)]) rfl rfl rfl (by exact (w_nx (r' := [some (.ref 0), some (encI a1), some (encI (1 + v1.1)), some (encI (max2 1 (a1 - v2.1))), some (.ref 1), none, none, some (.ref 2), none, some ((encL encI) v22.1), none, none]) rfl (run_ret ⟨rfl, rfl⟩)))))))))))))))))))))))))))))))))))))) (s_wipe (s_nil (w_nx (r' := [some (.ref 0), some (encI a1), some (encI (1 + v1.1)), some (encI (max2 1 (a1 - v2.1))), some (.ref 1), none, none, some (.ref 2), none, some ((encL encI) v22.1), none, none]) rfl (run_ret ⟨rfl, rfl⟩)))))))))))))))) (fun v45 => by exact (n_thn (s_ret (c_pure (q_as (w := (encP encI (encT (encT encI))) ((1 + v1.1), v45.2)) (q_tup (q_args1 (q_var rfl) (q_args1 (q_call (q_args1 (q_var rfl) q_args0) (o_tupR rfl)) q_args0))) rfl) (run_ret ⟨rfl, _, rfl⟩)))))))))))))))))))))))))))))))))))))))))))))))))))))))))))))))))))))))))))))))))))))))))))
theorem m_n__law_finds (a0 : ((List Int) × Int × Int × Int × Int)) (a1 : Int) (l : Nat) (h : PH) (hl : h[l]? = some ((encH (encL encI) encI encI encI encI) a0)) : Run (apart1 d__law_finds [.ref l, encI a1] h) (n__law_finds a0 a1).nx (Xt (fun p => (encP encI (encT (encT encI))) p.1) fun p => h.set l ((encH (encL encI) encI encI encI encI) p.2)) :=
  ap1_of (eH := (encH (encL encI) encI encI encI encI)) (enc := (encP encI (encT (encT encI)))) (s := a0) (ws := [.ref 0, encI a1]) (ref1_h (frees_c ((fun z => enc_int.fr z) a1) rfl)) hl (fun s => ⟨(free_H (enc_lst enc_int) enc_int enc_int enc_int enc_int) s, rfl⟩) (fun z => (enc_p enc_int (enc_tup (enc_tup enc_int))).fr z) (b_n__law_finds a0 a1)
theorem b_n__law_told_pairs (a0 : ((List Int) × Int × Int × Int × Int)) (a1 : Int) : Run (d__law_told_pairs [.ref 0, encI a1] [(encH (encL encI) encI encI encI encI) a0]) (n__law_told_pairs a0 a1) fun p v h' => v = (encT (encP encI encI)) p.1 ∧ ∃ t, h' = (encH (encL encI) encI encI encI encI) p.2 :: t := by
  unfold d__law_told_pairs b__law_told_pairs n__law_told_pairs
  exact d_run (env := [some (.ref 0), some (encI a1), none, none, none, none, none]) rfl (s_seq (s_par (c_args1 (c_call1 (c_args1 (c_pure (q_var rfl) (c_args1 (c_frz (n_rg1 (q_var rfl) (fun v1 => (c_args0 (c_runN (V := fun (v2 : (List Int) × ((List Int) × Int × Int × Int × Int)) => (encL encI) v2.1) (H' := fun (v2 : (List Int) × ((List Int) × Int × Int × Int × Int)) => [((encH (encL encI) encI encI encI encI) v2.2)]) (m_n__law_mixed a0 v1 0 _ rfl) (fun _ => rfl) (fun v2 => (c_args1 (c_loc (c_pure (q_as (w := List.map encI []) q_args0 rfl) (c_args0 (n_two (n_nx (r' := [some (.ref 0), some (encI a1), some ((encL encI) v2.1), some (.ref 1), none, none, none]) (h' := [((encH (encL encI) encI encI encI encI) v2.2), ((encL encI) [])]) rfl rfl rfl (by exact (n_thn (s_seq (f_srcR (c_args1 (c_call1 (c_pure (q_args1 (q_var rfl) (q_args1 (q_frz (q_as (w := List.map encI [0, 1, 2, 4, 6]) (q_args1 q_c (q_args1 q_c (q_args1 q_c (q_args1 q_c (q_args1 q_c q_args0))))) rfl)) q_args0)) (c_runN (V := fun (v3 : Int × ((List Int) × Int × Int × Int × Int)) => encI v3.1) (H' := fun (v3 : Int × ((List Int) × Int × Int × Int × Int)) => [((encH (encL encI) encI encI encI encI) v3.2), ((encL encI) [])]) (m_n__law_any v2.2 [0, 1, 2, 4, 6] 0 _ rfl) (fun _ => rfl) (fun v3 => (c_args0 (c_rng (s_rng1 q_c) (fun v4 hv4 => (c_run (V := fun (v14 : ((List Int) × Int × Int × Int × Int) × (List (Int × Int))) => Fl.nx [some (.ref 0), some (encI a1), some ((encL encI) v2.1), some (.ref 1), none, none, none]) (Hh := fun (v14 : ((List Int) × Int × Int × Int × Int) × (List (Int × Int))) => [((encH (encL encI) encI encI encI encI) v14.1), ((encL (encP encI encI)) v14.2)]) (r_for (xs := v4) (ca := encI) (S := ((List Int) × Int × Int × Int × Int) × (List (Int × Int))) (E := fun (v6 : ((List Int) × Int × Int × Int × Int) × (List (Int × Int))) => [some (.ref 0), some (encI a1), some ((encL encI) v2.1), some (.ref 1), none, none, none]) (Hh := fun (v6 : ((List Int) × Int × Int × Int × Int) × (List (Int × Int))) => [((encH (encL encI) encI encI encI encI) v6.1), ((encL (encP encI encI)) v6.2)]) (s0 := (v3.2, [])) hv4 rfl rfl (fun _ => trivial) (fun v6 v5 => by exact (g_ok (r' := [some (.ref 0), some (encI a1), some ((encL encI) v2.1), some (.ref 1), some (encI v5), none, none]) rfl (c_id (s_wipe (s_seq (s_par (c_args1 (c_call1 (c_pure (q_args1 (q_var rfl) (q_args1 (q_var rfl) q_args0)) (c_runN (V := fun (v7 : Int × ((List Int) × Int × Int × Int × Int)) => encI v7.1) (H' := fun (v7 : Int × ((List Int) × Int × Int × Int × Int)) => [((encH (encL encI) encI encI encI encI) v7.2), ((encL (encP encI encI)) v6.2)]) (m_n__law_draw v6.1 a1 0 _ rfl) (fun _ => rfl) (fun v7 => (c_args1 (c_call1 (c_pure (q_args1 (q_var rfl) (q_args1 (q_var rfl) q_args0)) (c_runN (V := fun (v8 : Int × ((List Int) × Int × Int × Int × Int)) => encI v8.1) (H' := fun (v8 : Int × ((List Int) × Int × Int × Int × Int)) => [((encH (encL encI) encI encI encI encI) v8.2), ((encL (encP encI encI)) v6.2)]) (m_n__law_draw v7.2 a1 0 _ rfl) (fun _ => rfl) (fun v8 => (c_args0 (n_two (n_nx (r' := [some (.ref 0), some (encI a1), some ((encL encI) v2.1), some (.ref 1), some (encI v5), some (encI v7.1), some (encI v8.1)]) (h' := [((encH (encL encI) encI encI encI encI) v8.2), ((encL (encP encI encI)) v6.2)]) rfl rfl rfl (by exact (n_thn (s_if (c_runN (V := fun (v10 : Bool × ((List Int) × Int × Int × Int × Int)) => v10.1) (H' := fun (v10 : Bool × ((List Int) × Int × Int × Int × Int)) => [((encH (encL encI) encI encI encI encI) v10.2), ((encL (encP encI encI)) v6.2)]) (c_id (k_and (c_pure (t_bl (q_bin (q_var rfl) (q_var rfl) ne_ii)) (c_ite (k_or (c_pure (t_bl (q_bin (q_var rfl) (q_var rfl) lt_ii)) (c_ite (run_ret ⟨rfl, rfl⟩) (k_val (c_bin (c_call1 (c_pure (q_args1 (q_var rfl) (q_args1 q_c q_args0)) (c_runN (V := fun (v9 : Int × ((List Int) × Int × Int × Int × Int)) => encI v9.1) (H' := fun (v9 : Int × ((List Int) × Int × Int × Int × Int)) => [((encH (encL encI) encI encI encI encI) v9.2), ((encL (encP encI encI)) v6.2)]) (m_n__law_draw v8.2 3 0 _ rfl) (fun _ => rfl) (fun v9 => (c_pure q_c (c_liftP (z := encB (decide (v9.1 = 0))) eq_ii (k_bl (run_ret ⟨rfl, rfl⟩))))))))))))) (run_ret ⟨rfl, rfl⟩))))) (fun _ => rfl) (fun v10 => (c_ite (s_expr (c_met (q_var rfl) rfl (c_args1 (c_tup (c_args1 (c_bin (c_pure (q_var rfl) (c_pure (q_var rfl) (c_lift (v_idxL (c := encI) (xs := v2.1) (i := v7.1)) (fun v11 => (c_args1 (c_bin (c_pure (q_var rfl) (c_pure (q_var rfl) (c_lift (v_idxL (c := encI) (xs := v2.1) (i := v8.1)) (fun v12 => (c_args0 (c_args0 (m_op (Z := fun _ => Val.non) (H' := fun (v13 : (List (Int × Int))) => [((encH (encL encI) encI encI encI encI) v10.2), ((encL (encP encI encI)) v13)]) rfl (v_append (c := (encP encI encI)) (xs := v6.2) (x := (v11, v12))) (fun _ => rfl) (fun v13 => (n_nx (r' := [some (.ref 0), some (encI a1), some ((encL encI) v2.1), some (.ref 1), some (encI v5), some (encI v7.1), some (encI v8.1)]) (h' := [((encH (encL encI) encI encI encI encI) v10.2), ((encL (encP encI encI)) v13)]) rfl rfl rfl (by exact (w_nx (r' := [some (.ref 0), some (encI a1), some ((encL encI) v2.1), some (.ref 1), none, none, none]) rfl (run_ret ⟨.inl rfl, rfl⟩)))))))))))))))))))))))) (s_nil (w_nx (r' := [some (.ref 0), some (encI a1), some ((encL encI) v2.1), some (.ref 1), none, none, none]) rfl (run_ret ⟨.inl rfl, rfl⟩))))))))))))))))))))))))))))) (fun v14 => by exact (n_thn (s_ret (c_call (c_args1 (c_frz (c_callN (c_pure (q_args1 (q_var rfl) q_args0) (c_lift (v_setPRf rfl) (fun v15 => (c_args0 (c_liftP (z := (encT (encP encI encI)) v15) tuple_lst (run_ret ⟨rfl, _, rfl⟩)))))))))))))))))))))))))))))))))))))))))))))
theorem m_n__law_told_pairs (a0 : ((List Int) × Int × Int × Int × Int)) (a1 : Int) (l : Nat) (h : PH) (hl : h[l]? = some ((encH (encL encI) encI encI encI encI) a0)) : Run (apart1 d__law_told_pairs [.ref l, encI a1] h) (n__law_told_pairs a0 a1).nx (Xt (fun p => (encT (encP encI encI)) p.1) fun p => h.set l ((encH (encL encI) encI encI encI encI) p.2)) :=
  ap1_of (eH := (encH (encL encI) encI encI encI encI)) (enc := (encT (encP encI encI))) (s := a0) (ws := [.ref 0, encI a1]) (ref1_h (frees_c ((fun z => enc_int.fr z) a1) rfl)) hl (fun s => ⟨(free_H (enc_lst enc_int) enc_int enc_int enc_int enc_int) s, rfl⟩) (fun z => (enc_tup (enc_p enc_int enc_int)).fr z) (b_n__law_told_pairs a0 a1)
theorem b_n__law_orders (a0 : Int) : Run (d__law_orders [encI a0] []) (n__law_orders a0) fun z v _ => v = (encL (encT encI)) z := by
  unfold d__law_orders b__law_orders n__law_orders
  exact d_run (env := [some (encI a0), none, none, none, none, none]) rfl (s_seq (s_asg (c_gen (v := (encL (encT encI))) (X := [[]]) (q_frz (q_as (w := List.map (encT encI) [[]]) (q_args1 (q_as (w := (encT encI) []) (q_tup q_args0) rfl) q_args0) rfl)) (fun v1 => g_set (n_nx (r' := [some (encI a0), some ((encL (encT encI)) v1), none, none, none, none]) (h' := []) rfl rfl rfl (by exact (n_thn (s_seq (c_rng (s_rng1 (q_var rfl)) (fun v2 hv2 => (c_run (V := fun (v14 : (List (List Int))) => Fl.nx [some (encI a0), some ((encL (encT encI)) v14), none, none, none, none]) (Hh := fun (v14 : (List (List Int))) => []) (r_for (xs := v2) (ca := encI) (S := (List (List Int))) (E := fun (v4 : (List (List Int))) => [some (encI a0), some ((encL (encT encI)) v4), none, none, none, none]) (Hh := fun (v4 : (List (List Int))) => []) (s0 := v1) hv2 rfl rfl (fun _ => trivial) (fun v4 v3 => by exact (g_ok (r' := [some (encI a0), some ((encL (encT encI)) v4), some (encI v3), none, none, none]) rfl (c_id (s_scope (n := 0) rfl (s_wipe (s_seq (s_asg (c_loc (c_pure (q_as (w := List.map encI []) q_args0 rfl) (g_set (n_nx (r' := [some (encI a0), some ((encL (encT encI)) v4), some (encI v3), some (.ref 0), none, none]) (h' := [((encL encI) [])]) rfl rfl rfl (by exact (n_thn (s_seq (c_run (V := fun (v13 : (List (List Int))) => Fl.nx [some (encI a0), some ((encL (encT encI)) v4), some (encI v3), some (.ref 0), none, none]) (Hh := fun (v13 : (List (List Int))) => [((encL (encT encI)) v13)]) (r_for (xs := v4) (ca := (encT encI)) (S := (List (List Int))) (E := fun (v6 : (List (List Int))) => [some (encI a0), some ((encL (encT encI)) v4), some (encI v3), some (.ref 0), none, none]) (Hh := fun (v6 : (List (List Int))) => [((encL (encT encI)) v6)]) (s0 := []) (s_seqL (q_var rfl)) rfl rfl (fun _ => trivial) (fun v6 v5 => by exact (g_ok (r' := [some (encI a0), some ((encL (encT encI)) v4), some (encI v3), some (.ref 0), some ((encT encI) v5), none]) rfl (c_id (s_wipe (s_expr (c_met (q_var rfl) rfl (c_args1 (c_frz (c_rng (s_rng1 (q_var rfl)) (fun v7 hv7 => (c_run (V := fun v11 => List.map (encT encI) v11) (r_compF (p := fun v8 => (!(decide (v8 ∈ v5)))) (xs := v7) (c := encI) (d := (encT encI)) (E := fun v8 => [some (encI a0), some ((encL (encT encI)) v4), some (encI v3), some (.ref 0), some ((encT encI) v5), some (encI v8)]) hv7 trivial (fun v8 => rfl) (fun v8 => (t_bl (q_bin (q_var rfl) (q_var rfl) (o_ninT (a := v8) (xs := v5) enc_int (by decide))))) (fun v8 => c_id (c_bin (c_pure (q_var rfl) (c_pure (q_as (w := (encT encI) [v8]) (q_tup (q_args1 (q_var rfl) q_args0)) rfl) (c_lift (v_catT (c := encI) (xs := v5) (ys := [v8])) (fun v9 => (run_ret ⟨rfl, rfl⟩)))))))) (fun v11 => (c_args0 (m_op (Z := fun _ => Val.non) (H' := fun (v12 : (List (List Int))) => [((encL (encT encI)) v12)]) rfl (v_extend (c := (encT encI)) (xs := v6) (ys := v11)) (fun _ => rfl) (fun v12 => (n_nx (r' := [some (encI a0), some ((encL (encT encI)) v4), some (encI v3), some (.ref 0), some ((encT encI) v5), none]) (h' := [((encL (encT encI)) v12)]) rfl rfl rfl (by exact (w_nx (r' := [some (encI a0), some ((encL (encT encI)) v4), some (encI v3), some (.ref 0), none, none]) rfl (run_ret ⟨.inl rfl, rfl⟩)))))))))))))))))))) (fun v13 => by exact (n_thn (s_asg (c_mv (q_move rfl rfl) rfl (g_set (n_nx (r' := [some (encI a0), some ((encL (encT encI)) v13), some (encI v3), some (.ref 0), none, none]) (h' := [.non]) rfl rfl rfl (by exact (w_nx (r' := [some (encI a0), some ((encL (encT encI)) v13), none, none, none, none]) rfl (z_nx (h2 := []) (belE_1 (below_free _ ((fun z => enc_int.fr z) _)) (belE_1 (below_free _ ((fun z => (enc_lst (enc_tup enc_int)).fr z) _)) (belE_0 (belE_0 (belE_0 (belE_0 belE_n)))))) (cutH_ok (by decide) rfl bels_n) (run_ret ⟨.inl rfl, rfl⟩)))))))))))))))))))))))))) (fun v14 => by exact (n_thn (s_ret (c_pure (q_var rfl) (run_ret rfl))))))))))))))))
theorem m_n__law_orders (a0 : Int) (h : PH) : Run (apart d__law_orders [encI a0] h) (n__law_orders a0) (Xt (encL (encT encI)) fun _ => h) :=
  ap_of (b_n__law_orders a0) (frees_c ((fun z => enc_int.fr z) a0) rfl) (fun z => (enc_lst (enc_tup enc_int)).fr z)
theorem b_n__law_keeps (a0 : (List Int)) (a1 : (List (Int × Int))) : Run (d__law_keeps [(encT encI) a0, (encT (encP encI encI)) a1] []) (n__law_keeps a0 a1) fun z v _ => v = encB z := by
  unfold d__law_keeps b__law_keeps n__law_keeps
  exact d_run (env := [some ((encT encI) a0), some ((encT (encP encI encI)) a1), none, none]) rfl (s_ret (c_call (c_args1 (c_frz (c_run (V := fun v9 => List.map encB v9) (r_comp (xs := a1) (c := (encP encI encI)) (d := encB) (E := fun v5 => [some ((encT encI) a0), some ((encT (encP encI encI)) a1), some (encI v5.1), some (encI v5.2)]) (s_seqT (q_var rfl)) trivial (fun v5 => rfl) (fun v5 => c_id (c_bin (c_idxT (q_var rfl) (c_pure (q_var rfl) (c_lift (v_index (c := encI) (xs := a0) (a := v5.1) enc_int (by decide)) (fun v6 => (c_idxT (q_var rfl) (c_pure (q_var rfl) (c_lift (v_index (c := encI) (xs := a0) (a := v5.2) enc_int (by decide)) (fun v7 => (c_liftP (z := encB (decide (v6 < v7))) lt_ii (run_ret ⟨rfl, rfl⟩))))))))))))) (fun v9 => (c_args0 (c_liftP (z := encB (v9.all id)) o_allL (run_ret rfl)))))))))
theorem m_n__law_keeps (a0 : (List Int)) (a1 : (List (Int × Int))) (h : PH) : Run (apart d__law_keeps [(encT encI) a0, (encT (encP encI encI)) a1] h) (n__law_keeps a0 a1) (Xt encB fun _ => h) :=
  ap_of (b_n__law_keeps a0 a1) (frees_c ((fun z => (enc_tup enc_int).fr z) a0) (frees_c ((fun z => (enc_tup (enc_p enc_int enc_int)).fr z) a1) rfl)) (fun z => enc_bl.fr z)
theorem b_n__law_together (a0 : Int) (a1 : (List (List Int))) (a2 : (List Int)) : Run (d__law_together [encI a0, (encT (encT encI)) a1, (encT encI) a2] []) (n__law_together a0 a1 a2) fun z v _ => v = encB z := by
  unfold d__law_together b__law_together n__law_together
  exact d_run (env := [some (encI a0), some ((encT (encT encI)) a1), some ((encT encI) a2), none, none, none, none]) rfl (s_seq (c_rng (s_rng1 (q_var rfl)) (fun v1 hv1 => (c_loop (V := fun (a : Bool) => encB a) (HR := fun (a : Bool) _ => True) (r_forL (β := Bool) (V := fun (a : Bool) => encB a) (HR := fun (a : Bool) _ => True) (xs := v1) (ca := encI) (S := Unit) (E := fun (v3 : Unit) => [some (encI a0), some ((encT (encT encI)) a1), some ((encT encI) a2), none, none, none, none]) (Hh := fun (v3 : Unit) => []) (s0 := ()) hv1 rfl rfl (fun _ => trivial) (fun v3 v2 => by exact (g_ok (r' := [some (encI a0), some ((encT (encT encI)) a1), some ((encT encI) a2), some (encI v2), none, none, none]) rfl (c_id (s_wipe (s_seq (s_asg (c_frz (c_runN (V := fun (v10 : (List Int) × Unit) => List.map encI v10.1) (H' := fun (v10 : (List Int) × Unit) => []) (r_compS (S := Unit) (Hh := fun (v8 : Unit) => []) (s0 := ()) (xs := (enumI a2)) (c := (encE encI encI)) (d := encI) (E := fun v7 => [some (encI a0), some ((encT (encT encI)) a1), some ((encT encI) a2), some (encI v2), none, some (encI v7.1), some (encI v7.2)]) (s_enTt (q_var rfl)) (fun _ => trivial) (fun v8 v7 => rfl) (fun v8 v7 => (c_test (k_val (c_bin (c_pure (q_var rfl) (c_bin (c_pure (q_var rfl) (c_pure (q_var rfl) (c_lift (v_idxT (c := (encT encI)) (xs := a1) (i := v7.2)) (fun v9 => (c_liftP (z := encB (decide (v2 ∈ v9))) (o_inT (a := v2) (xs := v9) enc_int (by decide)) (k_bl (c_ite (c_one (c_pure (q_var rfl) (run_ret ⟨rfl, rfl⟩))) (run_ret ⟨rfl, rfl⟩))))))))))))))) (fun _ => rfl) (fun v10 => (g_set (n_nx (r' := [some (encI a0), some ((encT (encT encI)) a1), some ((encT encI) a2), some (encI v2), some ((encL encI) v10.1), none, none]) (h' := []) rfl rfl rfl (by exact (n_thn (s_if (c_runN (V := fun (v13 : Bool) => v13) (H' := fun (v13 : Bool) => []) (c_id (k_and (c_pure (t_bl (q_bin (q_call (q_args1 (q_var rfl) q_args0) o_lenL) q_c gt_ii)) (c_ite (k_val (c_bin (c_bin (c_bin (c_bin (c_pure (q_var rfl) (c_pure (q_un q_c neg_i) (c_lift (v_idxL (c := encI) (xs := v10.1) (i := (-1))) (fun v11 => (c_bin (c_pure (q_var rfl) (c_pure q_c (c_lift (v_idxL (c := encI) (xs := v10.1) (i := 0)) (fun v12 => (c_liftP (z := encI (v11 - v12)) sub_ii (c_pure q_c (c_liftP (z := encI ((v11 - v12) + 1)) add_ii (c_pure (q_call (q_args1 (q_var rfl) q_args0) o_lenL) (c_liftP (z := encB (!(decide (((v11 - v12) + 1) = ((v10.1.length : Nat) : Int))))) ne_ii (k_bl (run_ret ⟨rfl, rfl⟩))))))))))))))))))))) (run_ret ⟨rfl, rfl⟩))))) (fun _ => rfl) (fun v13 => (c_ite (s_ret (c_pure q_c (w_rt (run_ret ⟨rfl, trivial⟩)))) (s_nil (w_nx (r' := [some (encI a0), some ((encT (encT encI)) a1), some ((encT encI) a2), none, none, none, none]) rfl (run_ret ⟨.inl rfl, rfl⟩))))))))))))))))))))) (fun v14 => by exact (n_thn (s_ret (c_pure q_c (run_ret rfl))))) (fun a0 h0 ha => by exact (n_rt (run_ret rfl)))))))
theorem m_n__law_together (a0 : Int) (a1 : (List (List Int))) (a2 : (List Int)) (h : PH) : Run (apart d__law_together [encI a0, (encT (encT encI)) a1, (encT encI) a2] h) (n__law_together a0 a1 a2) (Xt encB fun _ => h) :=
  ap_of (b_n__law_together a0 a1 a2) (frees_c ((fun z => enc_int.fr z) a0) (frees_c ((fun z => (enc_tup (enc_tup enc_int)).fr z) a1) (frees_c ((fun z => (enc_tup enc_int).fr z) a2) rfl))) (fun z => enc_bl.fr z)
theorem b_n__law_age_orders (a0 : Int) (a1 : (List (List Int))) (a2 : (List (Int × Int))) : Run (d__law_age_orders [encI a0, (encT (encT encI)) a1, (encT (encP encI encI)) a2] []) (n__law_age_orders a0 a1 a2) fun z v _ => v = (encL (encT encI)) z := by
  unfold d__law_age_orders b__law_age_orders n__law_age_orders
  exact d_run (env := [some (encI a0), some ((encT (encT encI)) a1), some ((encT (encP encI encI)) a2), none]) rfl (s_ret (c_frz (k_srcS (c_callP (c_pure (q_args1 (q_call (q_args1 (q_var rfl) q_args0) o_lenT) q_args0) (c_run (V := (encL (encT encI))) (m_n__law_orders ((a1.length : Nat) : Int) _) (fun v1 => (c_runN (V := fun (v7 : (List (List Int)) × Unit) => List.map (encT encI) v7.1) (H' := fun (v7 : (List (List Int)) × Unit) => []) (r_compS (S := Unit) (Hh := fun (v3 : Unit) => []) (s0 := ()) (xs := v1) (c := (encT encI)) (d := (encT encI)) (E := fun v2 => [some (encI a0), some ((encT (encT encI)) a1), some ((encT (encP encI encI)) a2), some ((encT encI) v2)]) (s_seqL q_c) (fun _ => trivial) (fun v3 v2 => rfl) (fun v3 v2 => (c_test (c_runN (V := fun (v6 : Bool) => v6) (H' := fun (v6 : Bool) => []) (c_id (k_and (k_val (c_callP (c_pure (q_args1 (q_var rfl) (q_args1 (q_var rfl) q_args0)) (c_run (V := encB) (m_n__law_keeps v2 a2 _) (fun v4 => (k_bl (c_ite (k_val (c_callP (c_pure (q_args1 (q_var rfl) (q_args1 (q_var rfl) (q_args1 (q_var rfl) q_args0))) (c_run (V := encB) (m_n__law_together a0 a1 v2 _) (fun v5 => (k_bl (run_ret ⟨rfl, rfl⟩))))))) (run_ret ⟨rfl, rfl⟩)))))))))) (fun _ => rfl) (fun v6 => (c_ite (c_one (c_pure (q_var rfl) (run_ret ⟨rfl, rfl⟩))) (run_ret ⟨rfl, rfl⟩))))))) (fun _ => rfl) (fun v7 => (run_ret rfl))))))))))
theorem m_n__law_age_orders (a0 : Int) (a1 : (List (List Int))) (a2 : (List (Int × Int))) (h : PH) : Run (apart d__law_age_orders [encI a0, (encT (encT encI)) a1, (encT (encP encI encI)) a2] h) (n__law_age_orders a0 a1 a2) (Xt (encL (encT encI)) fun _ => h) :=
  ap_of (b_n__law_age_orders a0 a1 a2) (frees_c ((fun z => enc_int.fr z) a0) (frees_c ((fun z => (enc_tup (enc_tup enc_int)).fr z) a1) (frees_c ((fun z => (enc_tup (enc_p enc_int enc_int)).fr z) a2) rfl))) (fun z => (enc_lst (enc_tup enc_int)).fr z)
theorem b_n__law_sure (a0 : Int) (a1 : (List (List Int))) : Run (d__law_sure [encI a0, (encL (encT encI)) a1] []) (n__law_sure a0 a1) fun z v _ => v = (encT (encP encI encI)) z := by
  unfold d__law_sure b__law_sure n__law_sure
  exact d_run (env := [some (encI a0), some ((encL (encT encI)) a1), none, none, none, none]) rfl (s_seq (s_asg (c_loc (c_pure (q_as (w := List.map encI []) q_args0 rfl) (g_set (n_nx (r' := [some (encI a0), some ((encL (encT encI)) a1), some (.ref 0), none, none, none]) (h' := [((encL encI) [])]) rfl rfl rfl (by exact (n_thn (s_seq (c_rng (s_rng1 (q_var rfl)) (fun v1 hv1 => (c_run (V := fun (v23 : (List (Int × Int))) => Fl.nx [some (encI a0), some ((encL (encT encI)) a1), some (.ref 0), none, none, none]) (Hh := fun (v23 : (List (Int × Int))) => [((encL (encP encI encI)) v23)]) (r_for (xs := v1) (ca := encI) (S := (List (Int × Int))) (E := fun (v3 : (List (Int × Int))) => [some (encI a0), some ((encL (encT encI)) a1), some (.ref 0), none, none, none]) (Hh := fun (v3 : (List (Int × Int))) => [((encL (encP encI encI)) v3)]) (s0 := []) hv1 rfl rfl (fun _ => trivial) (fun v3 v2 => by exact (g_ok (r' := [some (encI a0), some ((encL (encT encI)) a1), some (.ref 0), some (encI v2), none, none]) rfl (c_id (s_wipe (c_rng (s_rng1 (q_var rfl)) (fun v4 hv4 => (c_run (V := fun (v22 : (List (Int × Int))) => Fl.nx [some (encI a0), some ((encL (encT encI)) a1), some (.ref 0), some (encI v2), none, none]) (Hh := fun (v22 : (List (Int × Int))) => [((encL (encP encI encI)) v22)]) (r_for (xs := v4) (ca := encI) (S := (List (Int × Int))) (E := fun (v6 : (List (Int × Int))) => [some (encI a0), some ((encL (encT encI)) a1), some (.ref 0), some (encI v2), none, none]) (Hh := fun (v6 : (List (Int × Int))) => [((encL (encP encI encI)) v6)]) (s0 := v3) hv4 rfl rfl (fun _ => trivial) (fun v6 v5 => by exact (g_ok (r' := [some (encI a0), some ((encL (encT encI)) a1), some (.ref 0), some (encI v2), some (encI v5), none]) rfl (c_id (s_wipe (s_if (c_runN (V := fun (v20 : Bool) => v20) (H' := fun (v20 : Bool) => [((encL (encP encI encI)) v6)]) (c_id (k_and (c_pure (t_bl (q_bin (q_var rfl) (q_var rfl) ne_ii)) (c_ite (k_val (c_call (c_args1 (c_frz (c_run (V := fun v19 => List.map encB v19) (r_comp (xs := a1) (c := (encT encI)) (d := encB) (E := fun v15 => [some (encI a0), some ((encL (encT encI)) a1), some (.ref 0), some (encI v2), some (encI v5), some ((encT encI) v15)]) (s_seqL (q_var rfl)) trivial (fun v15 => rfl) (fun v15 => c_id (c_bin (c_idxT (q_var rfl) (c_pure (q_var rfl) (c_lift (v_index (c := encI) (xs := v15) (a := v2) enc_int (by decide)) (fun v16 => (c_idxT (q_var rfl) (c_pure (q_var rfl) (c_lift (v_index (c := encI) (xs := v15) (a := v5) enc_int (by decide)) (fun v17 => (c_liftP (z := encB (decide (v16 < v17))) lt_ii (run_ret ⟨rfl, rfl⟩))))))))))))) (fun v19 => (c_args0 (c_liftP (z := encB (v19.all id)) o_allL (k_bl (run_ret ⟨rfl, rfl⟩)))))))))) (run_ret ⟨rfl, rfl⟩))))) (fun _ => rfl) (fun v20 => (c_ite (s_expr (c_met (q_var rfl) rfl (c_pure (q_args1 (q_as (w := (encP encI encI) (v2, v5)) (q_tup (q_args1 (q_var rfl) (q_args1 (q_var rfl) q_args0))) rfl) q_args0) (m_op (Z := fun _ => Val.non) (H' := fun (v21 : (List (Int × Int))) => [((encL (encP encI encI)) v21)]) rfl (v_append (c := (encP encI encI)) (xs := v6) (x := (v2, v5))) (fun _ => rfl) (fun v21 => (n_nx (r' := [some (encI a0), some ((encL (encT encI)) a1), some (.ref 0), some (encI v2), some (encI v5), none]) (h' := [((encL (encP encI encI)) v21)]) rfl rfl rfl (by exact (w_nx (r' := [some (encI a0), some ((encL (encT encI)) a1), some (.ref 0), some (encI v2), none, none]) rfl (run_ret ⟨.inl rfl, rfl⟩))))))))) (s_nil (w_nx (r' := [some (encI a0), some ((encL (encT encI)) a1), some (.ref 0), some (encI v2), none, none]) rfl (run_ret ⟨.inl rfl, rfl⟩)))))))))))) (fun v22 => by exact (w_nx (r' := [some (encI a0), some ((encL (encT encI)) a1), some (.ref 0), none, none, none]) rfl (run_ret ⟨.inl rfl, rfl⟩))))))))))) (fun v23 => by exact (n_thn (s_ret (c_pure (q_call (q_args1 (q_var rfl) q_args0) (o_tupR rfl)) (run_ret rfl)))))))))))))))))
theorem m_n__law_sure (a0 : Int) (a1 : (List (List Int))) (h : PH) : Run (apart d__law_sure [encI a0, (encL (encT encI)) a1] h) (n__law_sure a0 a1) (Xt (encT (encP encI encI)) fun _ => h) :=
  ap_of (b_n__law_sure a0 a1) (frees_c ((fun z => enc_int.fr z) a0) (frees_c ((fun z => (enc_lst (enc_tup enc_int)).fr z) a1) rfl)) (fun z => (enc_tup (enc_p enc_int enc_int)).fr z)
theorem b_n__law_is_right (a0 : ((List Int) × Int × Int × Int × Int)) (a1 : Int) (a2 : (List (List Int))) (a3 : (List (Int × Int))) : Run (d__law_is_right [.ref 0, encI a1, (encT (encT encI)) a2, (encT (encP encI encI)) a3] [(encH (encL encI) encI encI encI encI) a0]) (n__law_is_right a0 a1 a2 a3) fun p v h' => v = encB p.1 ∧ ∃ t, h' = (encH (encL encI) encI encI encI encI) p.2 :: t := by
  unfold d__law_is_right b__law_is_right n__law_is_right
  exact d_run (env := [some (.ref 0), some (encI a1), some ((encT (encT encI)) a2), some ((encT (encP encI encI)) a3), none, none, none, none, none, none, none, none, none, none]) rfl (s_seq (s_par (c_args1 (c_pure (q_call (q_args1 (q_var rfl) q_args0) o_lenT) (c_args1 (c_callP (c_pure (q_args1 (q_var rfl) (q_args1 (q_var rfl) (q_args1 (q_var rfl) q_args0))) (c_run (V := (encL (encT encI))) (m_n__law_age_orders a1 a2 a3 _) (fun v1 => (c_args0 (n_two (n_nx (r' := [some (.ref 0), some (encI a1), some ((encT (encT encI)) a2), some ((encT (encP encI encI)) a3), some (encI ((a2.length : Nat) : Int)), some ((encL (encT encI)) v1), none, none, none, none, none, none, none, none]) (h' := [((encH (encL encI) encI encI encI encI) a0)]) rfl rfl rfl (by exact (n_thn (s_seq (s_asg (c_callP (c_pure (q_args1 (q_var rfl) (q_args1 (q_var rfl) q_args0)) (c_run (V := (encT (encP encI encI))) (m_n__law_sure ((a2.length : Nat) : Int) v1 _) (fun v2 => (g_set (n_nx (r' := [some (.ref 0), some (encI a1), some ((encT (encT encI)) a2), some ((encT (encP encI encI)) a3), some (encI ((a2.length : Nat) : Int)), some ((encL (encT encI)) v1), some ((encT (encP encI encI)) v2), none, none, none, none, none, none, none]) (h' := [((encH (encL encI) encI encI encI encI) a0)]) rfl rfl rfl (by exact (n_thn (s_seq (s_if (c_runN (V := fun (v6 : Bool) => v6) (H' := fun (v6 : Bool) => [((encH (encL encI) encI encI encI encI) a0)]) (c_id (k_not (k_val (c_callP (c_args1 (c_frz (c_args1 (c_callP (c_pure (q_args1 (q_var rfl) (q_args1 (q_var rfl) (q_args1 (q_var rfl) q_args0))) (c_run (V := (encT (encT encI))) (m_n_age_orders a1 a2 a3 _) (fun v3 => (c_args1 (c_callP (c_pure (q_args1 (q_var rfl) (q_args1 (q_var rfl) (q_args1 (q_var rfl) q_args0))) (c_run (V := (encT (encP encI encI))) (m_n_surely_ahead a1 a2 a3 _) (fun v4 => (c_args0 (c_args1 (c_pure (q_as (w := (encQ2 (encT (encT encI)) (encT (encP encI encI))) (v1, v2)) (q_frz (q_as (w := [(encT (encT encI)) (v1, v2).1, (encT (encP encI encI)) (v1, v2).2]) (q_args1 (q_call (q_args1 (q_var rfl) q_args0) tuple_lst) (q_args1 (q_var rfl) q_args0)) rfl)) rfl) (c_args0 (c_run (V := encB) (m_n__law_same (v3, v4) (v1, v2) _) (fun v5 => (k_bl (run_ret ⟨rfl, rfl⟩)))))))))))))))))))))))) (fun _ => rfl) (fun v6 => (c_ite (s_ret (c_pure q_c (n_rt (run_ret ⟨rfl, _, rfl⟩)))) (s_nil (n_thn (s_seq (s_asg (c_gen (v := (encT (encP encI encI))) (X := (sortE (encP encI encI) (List.map (fun v7 => (v7.2, v7.1)) a3))) (q_call (q_args1 (q_frz (q_callN (q_args1 (q_frz (q_comp (xs := a3) (c := (encP encI encI)) (d := (encP encI encI)) (F := fun v7 => (v7.2, v7.1)) (E := fun v7 => [some (.ref 0), some (encI a1), some ((encT (encT encI)) a2), some ((encT (encP encI encI)) a3), some (encI ((a2.length : Nat) : Int)), some ((encL (encT encI)) v1), some ((encT (encP encI encI)) v2), none, some (encI v7.1), some (encI v7.2), none, none, none, none]) (s_seqT (q_var rfl)) trivial (fun v7 => rfl) (fun v7 => (q_as (w := (encP encI encI) (v7.2, v7.1)) (q_tup (q_args1 (q_var rfl) (q_args1 (q_var rfl) q_args0))) rfl)))) q_args0) (o_sortL (xs := (List.map (fun v7 => (v7.2, v7.1)) a3)) (ord_p ord_i ord_i) (enc_p enc_int enc_int) (by decide)))) q_args0) tuple_lst) (fun v8 => g_set (n_nx (r' := [some (.ref 0), some (encI a1), some ((encT (encT encI)) a2), some ((encT (encP encI encI)) a3), some (encI ((a2.length : Nat) : Int)), some ((encL (encT encI)) v1), some ((encT (encP encI encI)) v2), some ((encT (encP encI encI)) v8), none, none, none, none, none, none]) (h' := [((encH (encL encI) encI encI encI encI) a0)]) rfl rfl rfl (by exact (n_thn (s_seq (s_if (k_val (c_bin (c_callP (c_pure (q_args1 (q_var rfl) (q_args1 (q_var rfl) (q_args1 (q_var rfl) q_args0))) (c_run (V := (encT (encT encI))) (m_n_age_orders a1 a2 v8 _) (fun v9 => (c_pure (q_call (q_args1 (q_frz (q_callN (q_args1 (q_frz (q_comp (xs := v1) (c := (encT encI)) (d := (encT encI)) (F := fun v10 => (v10.reverse)) (E := fun v10 => [some (.ref 0), some (encI a1), some ((encT (encT encI)) a2), some ((encT (encP encI encI)) a3), some (encI ((a2.length : Nat) : Int)), some ((encL (encT encI)) v1), some ((encT (encP encI encI)) v2), some ((encT (encP encI encI)) v8), none, none, some ((encT encI) v10), none, none, none]) (s_seqL (q_var rfl)) trivial (fun v10 => rfl) (fun v10 => (q_revTt (q_var rfl))))) q_args0) (o_sortL (xs := (List.map (fun v10 => (v10.reverse)) v1)) (ord_t ord_i) (enc_tup enc_int) (by decide)))) q_args0) tuple_lst) (c_liftP (z := encB (!(decide (v9 = (sortE (encT encI) (List.map (fun v10 => (v10.reverse)) v1)))))) (o_ne (a := v9) (b := (sortE (encT encI) (List.map (fun v10 => (v10.reverse)) v1))) (enc_tup (enc_tup enc_int)) (by decide)) (k_bl (c_ite (s_ret (c_pure q_c (n_rt (run_ret ⟨rfl, _, rfl⟩)))) (s_nil (n_thn (s_seq (s_if (c_runN (V := fun (v12 : Bool) => v12) (H' := fun (v12 : Bool) => [((encH (encL encI) encI encI encI encI) a0)]) (c_id (k_and (c_pure (t_bl (q_bin (q_call (q_args1 (q_var rfl) q_args0) o_lenL) q_c gt_ii)) (c_ite (k_val (c_bin (c_callP (c_pure (q_args1 (q_var rfl) (q_args1 (q_var rfl) (q_args1 (q_var rfl) q_args0))) (c_run (V := (encT (encT encI))) (m_n_age_orders a1 a2 v2 _) (fun v11 => (c_pure (q_call (q_args1 (q_var rfl) q_args0) tuple_lst) (c_liftP (z := encB (!(decide (v11 = v1)))) (o_ne (a := v11) (b := v1) (enc_tup (enc_tup enc_int)) (by decide)) (k_bl (run_ret ⟨rfl, rfl⟩)))))))))) (run_ret ⟨rfl, rfl⟩))))) (fun _ => rfl) (fun v12 => (c_ite (s_ret (c_pure q_c (n_rt (run_ret ⟨rfl, _, rfl⟩)))) (s_nil (n_thn (s_seq (s_asg (c_tup (c_args1 (c_call1 (c_pure (q_args1 (q_var rfl) (q_args1 (q_var rfl) q_args0)) (c_runN (V := fun (v13 : Int × ((List Int) × Int × Int × Int × Int)) => encI v13.1) (H' := fun (v13 : Int × ((List Int) × Int × Int × Int × Int)) => [((encH (encL encI) encI encI encI encI) v13.2)]) (m_n__law_draw a0 ((a2.length : Nat) : Int) 0 _ rfl) (fun _ => rfl) (fun v13 => (c_args1 (c_call1 (c_pure (q_args1 (q_var rfl) (q_args1 (q_var rfl) q_args0)) (c_runN (V := fun (v14 : Int × ((List Int) × Int × Int × Int × Int)) => encI v14.1) (H' := fun (v14 : Int × ((List Int) × Int × Int × Int × Int)) => [((encH (encL encI) encI encI encI encI) v14.2)]) (m_n__law_draw v13.2 ((a2.length : Nat) : Int) 0 _ rfl) (fun _ => rfl) (fun v14 => (c_args0 (g_ok (r' := [some (.ref 0), some (encI a1), some ((encT (encT encI)) a2), some ((encT (encP encI encI)) a3), some (encI ((a2.length : Nat) : Int)), some ((encL (encT encI)) v1), some ((encT (encP encI encI)) v2), some ((encT (encP encI encI)) v8), none, none, none, some (encI v13.1), some (encI v14.1), none]) rfl (n_nx (r' := [some (.ref 0), some (encI a1), some ((encT (encT encI)) a2), some ((encT (encP encI encI)) a3), some (encI ((a2.length : Nat) : Int)), some ((encL (encT encI)) v1), some ((encT (encP encI encI)) v2), some ((encT (encP encI encI)) v8), none, none, none, some (encI v13.1), some (encI v14.1), none]) (h' := [((encH (encL encI) encI encI encI encI) v14.2)]) rfl rfl rfl (by exact (n_thn (s_seq (s_asg (c_call (c_args1 (c_frz (c_callN (c_args1 (c_bin (c_pure (q_var rfl) (c_pure (q_if (d := (encT (encP encI encI))) (A := [(v13.1, v14.1)]) (B := []) (t_bl (q_bin (q_var rfl) (q_var rfl) ne_ii)) (q_as (w := (encT (encP encI encI)) [(v13.1, v14.1)]) (q_tup (q_args1 (q_as (w := (encP encI encI) (v13.1, v14.1)) (q_tup (q_args1 (q_var rfl) (q_args1 (q_var rfl) q_args0))) rfl) q_args0)) rfl) (q_as (w := (encT encI) []) (q_tup q_args0) rfl)) (c_lift (v_catT (c := (encP encI encI)) (xs := a3) (ys := (if (!(decide (v13.1 = v14.1))) = true then [(v13.1, v14.1)] else []))) (fun v15 => (c_args0 (c_lift v_setPT (fun v16 => (c_args0 (c_liftP (z := (encT (encP encI encI)) v16) tuple_lst (g_set (n_nx (r' := [some (.ref 0), some (encI a1), some ((encT (encT encI)) a2), some ((encT (encP encI encI)) a3), some (encI ((a2.length : Nat) : Int)), some ((encL (encT encI)) v1), some ((encT (encP encI encI)) v2), some ((encT (encP encI encI)) v8), none, none, none, some (encI v13.1), some (encI v14.1), some ((encT (encP encI encI)) v16)]) (h' := [((encH (encL encI) encI encI encI encI) v14.2)]) rfl rfl rfl (by exact (n_thn (s_ret (c_bin (c_callP (c_pure (q_args1 (q_var rfl) (q_args1 (q_var rfl) (q_args1 (q_var rfl) q_args0))) (c_run (V := (encT (encT encI))) (m_n_age_orders a1 a2 v16 _) (fun v17 => (c_call (c_args1 (c_frz (c_runN (V := fun (v27 : (List (List Int)) × Unit) => List.map (encT encI) v27.1) (H' := fun (v27 : (List (List Int)) × Unit) => [((encH (encL encI) encI encI encI encI) v14.2)]) (r_compS (S := Unit) (Hh := fun (v23 : Unit) => [((encH (encL encI) encI encI encI encI) v14.2)]) (s0 := ()) (xs := v1) (c := (encT encI)) (d := (encT encI)) (E := fun v22 => [some (.ref 0), some (encI a1), some ((encT (encT encI)) a2), some ((encT (encP encI encI)) a3), some (encI ((a2.length : Nat) : Int)), some ((encL (encT encI)) v1), some ((encT (encP encI encI)) v2), some ((encT (encP encI encI)) v8), none, none, some ((encT encI) v22), some (encI v13.1), some (encI v14.1), some ((encT (encP encI encI)) v16)]) (s_seqL (q_var rfl)) (fun _ => trivial) (fun v23 v22 => rfl) (fun v23 v22 => (c_test (c_runN (V := fun (v26 : Bool) => v26) (H' := fun (v26 : Bool) => [((encH (encL encI) encI encI encI encI) v14.2)]) (c_id (k_or (c_pure (t_bl (q_bin (q_var rfl) (q_var rfl) eq_ii)) (c_ite (run_ret ⟨rfl, rfl⟩) (k_val (c_bin (c_idxT (q_var rfl) (c_pure (q_var rfl) (c_lift (v_index (c := encI) (xs := v22) (a := v13.1) enc_int (by decide)) (fun v24 => (c_idxT (q_var rfl) (c_pure (q_var rfl) (c_lift (v_index (c := encI) (xs := v22) (a := v14.1) enc_int (by decide)) (fun v25 => (c_liftP (z := encB (decide (v24 < v25))) lt_ii (k_bl (run_ret ⟨rfl, rfl⟩))))))))))))))))) (fun _ => rfl) (fun v26 => (c_ite (c_one (c_pure (q_var rfl) (run_ret ⟨rfl, rfl⟩))) (run_ret ⟨rfl, rfl⟩))))))) (fun _ => rfl) (fun v27 => (c_args0 (c_liftP (z := (encT (encT encI)) v27.1) tuple_lst (c_liftP (z := encB (decide (v17 = v27.1))) (o_eq (a := v17) (b := v27.1) (enc_tup (enc_tup enc_int)) (by decide)) (run_ret ⟨rfl, _, rfl⟩)))))))))))))))))))))))))))))))))))))))))))))))))))))))))))))))))))))))))))))))))))))))))))))))))))))))))))))))))
theorem m_n__law_is_right (a0 : ((List Int) × Int × Int × Int × Int)) (a1 : Int) (a2 : (List (List Int))) (a3 : (List (Int × Int))) (l : Nat) (h : PH) (hl : h[l]? = some ((encH (encL encI) encI encI encI encI) a0)) : Run (apart1 d__law_is_right [.ref l, encI a1, (encT (encT encI)) a2, (encT (encP encI encI)) a3] h) (n__law_is_right a0 a1 a2 a3).nx (Xt (fun p => encB p.1) fun p => h.set l ((encH (encL encI) encI encI encI encI) p.2)) :=
  ap1_of (eH := (encH (encL encI) encI encI encI encI)) (enc := encB) (s := a0) (ws := [.ref 0, encI a1, (encT (encT encI)) a2, (encT (encP encI encI)) a3]) (ref1_h (frees_c ((fun z => enc_int.fr z) a1) (frees_c ((fun z => (enc_tup (enc_tup enc_int)).fr z) a2) (frees_c ((fun z => (enc_tup (enc_p enc_int enc_int)).fr z) a3) rfl)))) hl (fun s => ⟨(free_H (enc_lst enc_int) enc_int enc_int enc_int enc_int) s, rfl⟩) (fun z => enc_bl.fr z) (b_n__law_is_right a0 a1 a2 a3)
theorem b_n_law (a0 : (List Int)) : Run (d_law [encScr a0] []) (n_law a0) fun z v _ => v = encB z := by
  unfold d_law b_law n_law
  exact d_run (env := [some (encScr a0), none, none, none, none]) rfl (s_seq (s_asg (c_loc (c_callNP (c_pure (q_args1 (q_var rfl) q_args0) (c_run (m_n__law_hand a0 _) (fun v1 => (g_set (n_nx (r' := [some (encScr a0), some (.ref 0), none, none, none]) (h' := [((encH (encL encI) encI encI encI encI) v1)]) rfl rfl rfl (by exact (n_thn (s_seq (s_asg (c_gen (v := (encP3 (encT encI) (encP encI encI) (encT encI))) (X := ([0], (0, 1), [1])) (q_as (w := (encP3 (encT encI) (encP encI encI) (encT encI)) ([0], (0, 1), [1])) (q_tup (q_args1 (q_as (w := (encT encI) [0]) (q_tup (q_args1 q_c q_args0)) rfl) (q_args1 (q_as (w := (encP encI encI) (0, 1)) (q_tup (q_args1 q_c (q_args1 q_c q_args0))) rfl) (q_args1 (q_as (w := (encT encI) [1]) (q_tup (q_args1 q_c q_args0)) rfl) q_args0)))) rfl) (fun v2 => g_set (n_nx (r' := [some (encScr a0), some (.ref 0), some ((encP3 (encT encI) (encP encI encI) (encT encI)) v2), none, none]) (h' := [((encH (encL encI) encI encI encI encI) v1)]) rfl rfl rfl (by exact (n_thn (s_seq (s_if (c_runN (V := fun (v6 : Bool) => v6) (H' := fun (v6 : Bool) => [((encH (encL encI) encI encI encI encI) v1)]) (c_id (k_not (k_val (c_callP (c_args1 (c_frz (c_args1 (c_callP (c_pure (q_args1 q_c (q_args1 (q_var rfl) (q_args1 (q_as (w := (encT encI) []) (q_tup q_args0) rfl) q_args0))) (c_run (V := (encT (encT encI))) (m_n_age_orders 2 [v2.1, [v2.2.1.1, v2.2.1.2], v2.2.2] [] _) (fun v3 => (c_args1 (c_callP (c_pure (q_args1 q_c (q_args1 (q_var rfl) (q_args1 (q_as (w := (encT (encP encI encI)) [(0, 2)]) (q_tup (q_args1 (q_as (w := (encP encI encI) (0, 2)) (q_tup (q_args1 q_c (q_args1 q_c q_args0))) rfl) q_args0)) rfl) q_args0))) (c_run (V := (encT (encP encI encI))) (m_n_surely_ahead 2 [v2.1, [v2.2.1.1, v2.2.1.2], v2.2.2] [(0, 2)] _) (fun v4 => (c_args0 (c_args1 (c_pure (q_frz (q_as (w := List.map (encT (encT encI)) [[[0, 1, 2], [2, 1, 0]], [[0, 1], [0, 2], [1, 2]]]) (q_args1 (q_as (w := (encT (encP3 encI encI encI)) [(0, 1, 2), (2, 1, 0)]) (q_tup (q_args1 (q_as (w := (encP3 encI encI encI) (0, 1, 2)) (q_tup (q_args1 q_c (q_args1 q_c (q_args1 q_c q_args0)))) rfl) (q_args1 (q_as (w := (encP3 encI encI encI) (2, 1, 0)) (q_tup (q_args1 q_c (q_args1 q_c (q_args1 q_c q_args0)))) rfl) q_args0))) rfl) (q_args1 (q_as (w := (encT (encP encI encI)) [(0, 1), (0, 2), (1, 2)]) (q_tup (q_args1 (q_as (w := (encP encI encI) (0, 1)) (q_tup (q_args1 q_c (q_args1 q_c q_args0))) rfl) (q_args1 (q_as (w := (encP encI encI) (0, 2)) (q_tup (q_args1 q_c (q_args1 q_c q_args0))) rfl) (q_args1 (q_as (w := (encP encI encI) (1, 2)) (q_tup (q_args1 q_c (q_args1 q_c q_args0))) rfl) q_args0)))) rfl) q_args0)) rfl)) (c_args0 (c_run (V := encB) (m_n__law_same (v3, v4) ([[0, 1, 2], [2, 1, 0]], [(0, 1), (0, 2), (1, 2)]) _) (fun v5 => (k_bl (run_ret ⟨rfl, rfl⟩)))))))))))))))))))))))) (fun _ => rfl) (fun v6 => (c_ite (s_ret (c_pure q_c (n_rt (run_ret rfl)))) (s_nil (n_thn (s_seq (s_if (c_runN (V := fun (v10 : Bool) => v10) (H' := fun (v10 : Bool) => [((encH (encL encI) encI encI encI encI) v1)]) (c_id (k_not (k_val (c_callP (c_args1 (c_frz (c_args1 (c_callP (c_pure (q_args1 q_c (q_args1 (q_as (w := (encT (encT encI)) [[0], [], [0]]) (q_tup (q_args1 (q_as (w := (encT encI) [0]) (q_tup (q_args1 q_c q_args0)) rfl) (q_args1 (q_as (w := (encT encI) []) (q_tup q_args0) rfl) (q_args1 (q_as (w := (encT encI) [0]) (q_tup (q_args1 q_c q_args0)) rfl) q_args0)))) rfl) (q_args1 (q_as (w := (encT (encP encI encI)) [(1, 0)]) (q_tup (q_args1 (q_as (w := (encP encI encI) (1, 0)) (q_tup (q_args1 q_c (q_args1 q_c q_args0))) rfl) q_args0)) rfl) q_args0))) (c_run (V := (encT (encT encI))) (m_n_age_orders 1 [[0], [], [0]] [(1, 0)] _) (fun v7 => (c_args1 (c_callP (c_pure (q_args1 q_c (q_args1 (q_as (w := (encT (encT encI)) [[], []]) (q_tup (q_args1 (q_as (w := (encT encI) []) (q_tup q_args0) rfl) (q_args1 (q_as (w := (encT encI) []) (q_tup q_args0) rfl) q_args0))) rfl) (q_args1 (q_as (w := (encT (encP encI encI)) [(0, 1), (1, 0)]) (q_tup (q_args1 (q_as (w := (encP encI encI) (0, 1)) (q_tup (q_args1 q_c (q_args1 q_c q_args0))) rfl) (q_args1 (q_as (w := (encP encI encI) (1, 0)) (q_tup (q_args1 q_c (q_args1 q_c q_args0))) rfl) q_args0))) rfl) q_args0))) (c_run (V := (encT (encP encI encI))) (m_n_surely_ahead 1 [[], []] [(0, 1), (1, 0)] _) (fun v8 => (c_args0 (c_args1 (c_pure (q_frz (q_as (w := List.map (encT (encT encI)) [[[1, 0, 2], [1, 2, 0]], [[0, 1], [1, 0]]]) (q_args1 (q_as (w := (encT (encP3 encI encI encI)) [(1, 0, 2), (1, 2, 0)]) (q_tup (q_args1 (q_as (w := (encP3 encI encI encI) (1, 0, 2)) (q_tup (q_args1 q_c (q_args1 q_c (q_args1 q_c q_args0)))) rfl) (q_args1 (q_as (w := (encP3 encI encI encI) (1, 2, 0)) (q_tup (q_args1 q_c (q_args1 q_c (q_args1 q_c q_args0)))) rfl) q_args0))) rfl) (q_args1 (q_as (w := (encT (encP encI encI)) [(0, 1), (1, 0)]) (q_tup (q_args1 (q_as (w := (encP encI encI) (0, 1)) (q_tup (q_args1 q_c (q_args1 q_c q_args0))) rfl) (q_args1 (q_as (w := (encP encI encI) (1, 0)) (q_tup (q_args1 q_c (q_args1 q_c q_args0))) rfl) q_args0))) rfl) q_args0)) rfl)) (c_args0 (c_run (V := encB) (m_n__law_same (v7, v8) ([[1, 0, 2], [1, 2, 0]], [(0, 1), (1, 0)]) _) (fun v9 => (k_bl (run_ret ⟨rfl, rfl⟩)))))))))))))))))))))))) (fun _ => rfl) (fun v10 => (c_ite (s_ret (c_pure q_c (n_rt (run_ret rfl)))) (s_nil (n_thn (s_seq (s_pre (r' := [some (encScr a0), some (.ref 0), none, none, none]) rfl (c_rng (s_rng1 q_c) (fun v11 hv11 => (c_loop (V := fun (a : Bool) => encB a) (HR := fun (a : Bool) _ => True) (r_forL (β := Bool) (V := fun (a : Bool) => encB a) (HR := fun (a : Bool) _ => True) (xs := v11) (ca := encI) (S := ((List Int) × Int × Int × Int × Int)) (E := fun (v13 : ((List Int) × Int × Int × Int × Int)) => [some (encScr a0), some (.ref 0), none, none, none]) (Hh := fun (v13 : ((List Int) × Int × Int × Int × Int)) => [((encH (encL encI) encI encI encI encI) v13)]) (s0 := v1) hv11 rfl rfl (fun _ => trivial) (fun v13 v12 => by exact (g_ok (r' := [some (encScr a0), some (.ref 0), none, some (encI v12), none]) rfl (c_id (s_wipe (s_seq (s_asg (c_call1 (c_pure (q_args1 (q_var rfl) (q_args1 q_c q_args0)) (c_runN (V := fun (v14 : (Int × (List (List Int))) × ((List Int) × Int × Int × Int × Int)) => (encP encI (encT (encT encI))) v14.1) (H' := fun (v14 : (Int × (List (List Int))) × ((List Int) × Int × Int × Int × Int)) => [((encH (encL encI) encI encI encI encI) v14.2)]) (m_n__law_finds v13 5 0 _ rfl) (fun _ => rfl) (fun v14 => (g_ok (r' := [some (encScr a0), some (.ref 0), some ((encT (encT encI)) v14.1.2), some (encI v12), some (encI v14.1.1)]) rfl (n_nx (r' := [some (encScr a0), some (.ref 0), some ((encT (encT encI)) v14.1.2), some (encI v12), some (encI v14.1.1)]) (h' := [((encH (encL encI) encI encI encI encI) v14.2)]) rfl rfl rfl (by exact (n_thn (s_if (c_runN (V := fun (v17 : Bool × ((List Int) × Int × Int × Int × Int)) => v17.1) (H' := fun (v17 : Bool × ((List Int) × Int × Int × Int × Int)) => [((encH (encL encI) encI encI encI encI) v17.2)]) (c_id (k_not (k_val (c_call1 (c_args1 (c_pure (q_var rfl) (c_args1 (c_pure (q_var rfl) (c_args1 (c_pure (q_var rfl) (c_args1 (c_call1 (c_pure (q_args1 (q_var rfl) (q_args1 (q_call (q_args1 (q_var rfl) q_args0) o_lenT) q_args0)) (c_runN (V := fun (v15 : (List (Int × Int)) × ((List Int) × Int × Int × Int × Int)) => (encT (encP encI encI)) v15.1) (H' := fun (v15 : (List (Int × Int)) × ((List Int) × Int × Int × Int × Int)) => [((encH (encL encI) encI encI encI encI) v15.2)]) (m_n__law_told_pairs v14.2 ((v14.1.2.length : Nat) : Int) 0 _ rfl) (fun _ => rfl) (fun v15 => (c_args0 (c_runN (V := fun (v16 : Bool × ((List Int) × Int × Int × Int × Int)) => encB v16.1) (H' := fun (v16 : Bool × ((List Int) × Int × Int × Int × Int)) => [((encH (encL encI) encI encI encI encI) v16.2)]) (m_n__law_is_right v15.2 v14.1.1 v14.1.2 v15.1 0 _ rfl) (fun _ => rfl) (fun v16 => (k_bl (run_ret ⟨rfl, rfl⟩)))))))))))))))))))) (fun _ => rfl) (fun v17 => (c_ite (s_ret (c_pure q_c (w_rt (run_ret ⟨rfl, trivial⟩)))) (s_nil (w_nx (r' := [some (encScr a0), some (.ref 0), none, none, none]) rfl (run_ret ⟨.inl rfl, rfl⟩)))))))))))))))))))))) (fun v18 => by exact (n_thn (s_ret (c_pure q_c (run_ret rfl))))) (fun a0 h0 ha => by exact (n_rt (run_ret rfl))))))))))))))))))))))))))))))))))))))))
theorem m_n_law (a0 : (List Int)) (h : PH) : Run (apart d_law [encScr a0] h) (n_law a0) (Xt encB fun _ => h) :=
  ap_of (b_n_law a0) (frees_c (free_scr a0) rfl) (fun z => enc_bl.fr z)
end SW

namespace SW
open PySem
theorem draw_ok : DrawOK n__law_draw := by
  intro h m ho h0 h1
  unfold n__law_draw
  refine Ok.bind (P := HndOK) ?_ fun h2 ho2 => ?_
  · split
    · rename_i c
      simp only [Bool.and_eq_true, decide_eq_true_eq] at c
      refine (ok_idxR ho.2.1 c.2).bind fun x hx => ?_
      have hx0 := ho.1 x hx
      have := ho.2.1
      split
      · exact Ok.ret ⟨ho.1, by show 0 ≤ h.2.1 + 1; omega, hx0⟩
      · exact Ok.ret ⟨ho.1, by show 0 ≤ h.2.1 + 1; omega, ho.2.2⟩
    · exact Ok.ret ho
  · split
    · rw [modR_ok h0, R.bind_ok, divR_ok h0 h1, R.bind_ok]
      exact Ok.ret ⟨Int.emod_nonneg _ (by omega), Int.emod_lt_of_pos _ h0, ho2.1, ho2.2.1, Int.ediv_nonneg ho2.2.2 (by omega)⟩
    · simp only [R.lt_eq]
      rw [mulR_l (fac_modA (by decide) (by decide)), R.bind_ok, mulR_l (fac_modA (by decide) (by decide)), R.bind_ok, modR_ok h0, R.bind_ok]
      exact Ok.ret ⟨Int.emod_nonneg _ (by omega), Int.emod_lt_of_pos _ h0, ho2.1, ho2.2.1, ho2.2.2⟩
theorem mixed_eq (h : Hand) (xs : List Int) : n__law_mixed h xs = mixedG n__law_draw h xs := rfl
theorem any_eq (h : Hand) (xs : List Int) : n__law_any h xs = anyG n__law_draw h xs := rfl
theorem rng_sub {m : Int} {xs : List Int} (h : List.Sublist xs (rng m)) : xs ∈ subs (rng m) := mem_subs h
theorem drawn_ok {h : Hand} (ho : HndOK h) : Ok (n__law_finds h 5) fun p => TabF p.1.1 p.1.2 ∧ HndOK p.2 := by
  unfold n__law_finds
  rw [any_eq]
  refine (any_ok draw_ok ho (by decide) (by decide)).nx.bind fun v1 h1 => ?_
  rw [any_eq]
  refine (any_ok draw_ok h1.2 (by decide) (by decide)).nx.bind fun v2 h2 => ?_
  have w1 : 1 ≤ 1 + v1.1 ∧ 1 + v1.1 ≤ 5 := by
    have := h1.1
    simp only [List.mem_cons, List.not_mem_nil, or_false] at this
    omega
  have m1 : 1 ≤ max2 1 (5 - v2.1) ∧ max2 1 (5 - v2.1) ≤ 5 := by
    have := h2.1
    simp only [List.mem_cons, List.not_mem_nil, or_false] at this
    unfold max2; split <;> omega
  obtain ⟨W, eW⟩ : ∃ W, W = 1 + v1.1 := ⟨_, rfl⟩
  obtain ⟨M, eM⟩ : ∃ M, M = max2 1 (5 - v2.1) := ⟨_, rfl⟩
  rw [← eW] at w1 ⊢
  rw [← eM] at m1 ⊢
  have lenM : (rng M).length = M.toNat := length_rng
  have fok : ∀ F : List (List Int), F.length = M.toNat → (∀ f ∈ F, f ∈ subs (rng W)) → TabF W F := fun F hl hf => ⟨w1.1, w1.2, by omega, by omega, hf⟩
  refine (draw_ok _ 2 h2.2 (by decide) (by decide)).nx.bind fun v3 h3 => ?_
  split
  · rw [rngR_0 (by omega) (by omega), R.bind_ok]
    refine (ok_foldRn (I := fun k s => HndOK s.1 ∧ s.2.length + k = M.toNat ∧ ∀ f ∈ s.2, f ∈ subs (rng W)) ⟨h3.2.2, by simp [lenM], fun _ h => by cases h⟩ fun k s x _ hs => ?_).bind fun s hs => Ok.ret ⟨fok _ hs.2.1 hs.2.2, hs.1⟩
    rw [rngR_0 (by omega) (by omega), R.bind_ok]
    refine (ok_mapSR_sub (I := HndOK) hs.1 fun s x _ hh => (draw_ok _ 3 hh (by decide) (by decide)).nx.bind fun w hw => ?_).bind fun q hq => ?_
    · split
      · exact Ok.ret ⟨.inr rfl, hw.2.2⟩
      · exact Ok.ret ⟨.inl rfl, hw.2.2⟩
    · have := hs.2.1
      refine Ok.eqn (snocR_ok (by omega)) (Ok.ret ⟨hq.2, by simp only [List.length_append, List.length_singleton]; omega, fun f hf => ?_⟩)
      rcases List.mem_append.mp hf with z | z
      · exact hs.2.2 f z
      · simp only [List.mem_singleton] at z; subst z; exact rng_sub hq.1
  · rw [rngR_0 (by omega) (by omega), R.bind_ok]
    refine (ok_foldRn (I := fun k s => HndOK s.1 ∧ s.2.length + k = W.toNat) ⟨h3.2.2, by simp [length_rng]⟩ fun k s x _ hs => ?_).bind fun v20 h20 => ?_
    · refine (draw_ok _ _ hs.1 (by omega) (by omega)).nx.bind fun v17 h17 => ?_
      refine (draw_ok _ 3 h17.2.2 (by decide) (by decide)).nx.bind fun v18 h18 => ?_
      have := hs.2
      exact Ok.eqn (snocR_ok (by omega)) (Ok.ret ⟨h18.2.2, by simp only [List.length_append, List.length_singleton]; omega⟩)
    rw [rngR_0 (by omega) (by omega), R.bind_ok, mixed_eq]
    refine (mixed_ok draw_ok h20.1 (by rw [lenM]; omega)).nx.bind fun v22 h22 => ?_
    have hl22 : v22.1.length = M.toNat := by rw [h22.1.length_eq, lenM]
    rw [R.bind_ok]
    refine (ok_foldRn (I := fun k s => s.length + k = M.toNat ∧ ∀ f ∈ s, f ∈ subs (rng W)) ⟨by simp [lenM], fun _ h => by cases h⟩ fun k s x hx hs => ?_).bind fun v35 h35 => ?_
    · rw [R.bind_ok]
      obtain ⟨x0, x1⟩ := rng_mem.mp hx
      refine (ok_mapSR_sub (I := fun _ => True) trivial fun s w hw _ => ?_).bind fun q hq => ?_
      · obtain ⟨w0, w2⟩ := rng_mem.mp hw
        have hl : v20.2.length = W.toNat := by have := h20.2; omega
        refine (Ok.bind (P := fun _ => True) ?_ fun b _ => ?_)
        · rw [idxR_ok w0 (by omega), R.bind_ok, idxR_ok x0 (by omega), R.bind_ok]
          split
          · exact Ok.ret trivial
          · exact Ok.ret trivial
        · cases b
          · exact Ok.ret ⟨.inl rfl, trivial⟩
          · exact Ok.ret ⟨.inr rfl, trivial⟩
      · have := hs.1
        refine Ok.eqn (snocR_ok (by omega)) (Ok.ret ⟨by simp only [List.length_append, List.length_singleton]; omega, fun f hf => ?_⟩)
        rcases List.mem_append.mp hf with z | z
        · exact hs.2 f z
        · simp only [List.mem_singleton] at z; subst z; exact rng_sub hq.1
    have hl35 : v35.length = M.toNat := by have := h35.1; omega
    refine Ok.bind (P := fun (p : Hand × List (List Int)) => HndOK p.1 ∧ p.2.length = M.toNat ∧ ∀ f ∈ p.2, f ∈ subs (rng W)) ?_ fun p hp => Ok.ret ⟨fok _ hp.2.1 hp.2.2, hp.1⟩
    refine (draw_ok _ 4 h22.2 (by decide) (by decide)).nx.bind fun v36 h36 => ?_
    split
    · refine (draw_ok _ M h36.2.2 (by omega) (by omega)).nx.bind fun v37 h37 => ?_
      refine (draw_ok _ W h37.2.2 (by omega) (by omega)).nx.bind fun v38 h38 => ?_
      rw [R.bind_ok]
      refine (ok_mapSR_sub (I := fun _ => True) trivial fun s w hw _ => ?_).bind fun q hq => ?_
      · rw [idxR_ok h37.1 (by omega), R.bind_ok]
        split
        · exact Ok.ret ⟨.inr rfl, trivial⟩
        · exact Ok.ret ⟨.inl rfl, trivial⟩
      · have e : setR v35 v37.1 q.1 = .ok (v35.set v37.1.toNat q.1) := by
          unfold setR; rw [ixN_nat h37.1 (by omega)]
        refine Ok.eqn e (Ok.ret ⟨h38.2.2, by simp [hl35], fun f hf => ?_⟩)
        rcases List.mem_or_eq_of_mem_set hf with z | z
        · exact h35.2 f z
        · subst z; exact rng_sub hq.1
    · exact Ok.ret ⟨h36.2.2, hl35, h35.2⟩

theorem insP_len (p : Int × Int) : ∀ l : List (Int × Int), (insP p l).length ≤ l.length + 1
  | [] => by simp [insP]
  | y :: l => by
    have := insP_len p l
    unfold insP
    split
    · simp
    · split
      · simp
      · simp only [List.length_cons]; omega
theorem ssP_len : ∀ zs : List (Int × Int), (ssP zs).length ≤ zs.length
  | [] => Nat.le_refl _
  | z :: zs => by
    have := insP_len z (ssP zs)
    have := ssP_len zs
    show (insP z (ssP zs)).length ≤ _
    simp only [List.length_cons]; omega
theorem set_prs {N : Int} (h5 : N ≤ 5) {Z : List (Int × Int)} (hl : Z.length ≤ 50) (hm : ∀ q ∈ Z, (q.1 ∈ rng N ∧ q.2 ∈ rng N) ∧ q.1 ≠ q.2) : setPR Z = .ok (ssP Z) ∧ PrsOK N (ssP Z) ∧ (ssP Z).length ≤ 50 := by
  have hsm : ∀ q ∈ Z, smP q = true := fun q hq => by
    obtain ⟨⟨h1, h2⟩, _⟩ := hm q hq
    have h1 := rng_mem.mp h1
    have h2 := rng_mem.mp h2
    unfold smP
    simp only [Bool.and_eq_true, decide_eq_true_eq]
    omega
  refine ⟨?_, ⟨ssP_srt hsm, fun q hq => (hm q (ssP_mem.mp hq)).2, fun q hq => (hm q (ssP_mem.mp hq)).1⟩, Nat.le_trans (ssP_len Z) hl⟩
  unfold setPR
  rw [if_pos]
  rw [Bool.and_eq_true, decide_eq_true_eq, List.all_eq_true]
  exact ⟨by omega, hsm⟩
theorem pairs_ok {h : Hand} {N : Int} (ho : HndOK h) (h0 : 1 ≤ N) (h5 : N ≤ 5) : Ok (n__law_told_pairs h N) fun p => (PrsOK N p.1 ∧ p.1.length ≤ 50) ∧ HndOK p.2 := by
  unfold n__law_told_pairs
  refine Ok.eqn (rngR_0 (by omega) (by omega)) ?_
  rw [mixed_eq]
  refine (mixed_ok draw_ok ho (by rw [length_rng]; omega)).nx.bind fun v2 h2 => ?_
  rw [any_eq]
  refine (any_ok draw_ok h2.2 (by decide) (by decide)).nx.bind fun v3 h3 => ?_
  have h3' : 0 ≤ v3.1 ∧ v3.1 ≤ 6 := by
    have := h3.1
    simp only [List.mem_cons, List.not_mem_nil, or_false] at this
    omega
  refine Ok.eqn (rngR_0 (by omega) (by omega)) ?_
  have hl2 : v2.1.length = N.toNat := by rw [h2.1.length_eq, length_rng]
  have hno : v2.1.Nodup := h2.1.nodup_iff.mpr (nodup_rng N)
  refine (ok_foldRn (I := fun k s => HndOK s.1 ∧ s.2.length + k ≤ 6 ∧ ∀ q ∈ s.2, (q.1 ∈ rng N ∧ q.2 ∈ rng N) ∧ q.1 ≠ q.2) ⟨h3.2, by rw [length_rng]; simp; omega, fun _ z => by cases z⟩ fun k s x _ hs => ?_).bind fun s hs => ?_
  · refine (draw_ok _ N hs.1 (by omega) (by omega)).nx.bind fun v7 h7 => ?_
    refine (draw_ok _ N h7.2.2 (by omega) (by omega)).nx.bind fun v8 h8 => ?_
    have hl := hs.2.1
    refine Ok.bind (P := fun p : Bool × Hand => (p.1 = true → v7.1 ≠ v8.1) ∧ HndOK p.2) ?_ fun p hp => ?_
    · split
      · rename_i c
        have c' : v7.1 ≠ v8.1 := by simpa using c
        split
        · exact Ok.ret ⟨fun _ => c', h8.2.2⟩
        · exact (draw_ok _ 3 h8.2.2 (by decide) (by decide)).nx.bind fun w hw => Ok.ret ⟨fun _ => c', hw.2.2⟩
      · exact Ok.ret ⟨(fun z => by cases z), h8.2.2⟩
    · split
      · rename_i c
        have hne := hp.1 c
        have g1 : v7.1.toNat < v2.1.length := by omega
        have g2 : v8.1.toNat < v2.1.length := by omega
        refine Ok.eqn (idxR_ok h7.1 (by omega)) (Ok.eqn (idxR_ok h8.1 (by omega)) (Ok.eqn (snocR_ok (by omega)) (Ok.ret ⟨hp.2, by simp only [List.length_append, List.length_singleton]; omega, fun q hq => ?_⟩)))
        rcases List.mem_append.mp hq with z | z
        · exact hs.2.2 q z
        · simp only [List.mem_singleton] at z
          subst z
          refine ⟨⟨h2.1.mem_iff.mp (List.getElem_mem g1), h2.1.mem_iff.mp (List.getElem_mem g2)⟩, fun e => ?_⟩
          have := nodup_at hno (hi := g1) (hj := g2) e
          omega
      · exact Ok.ret ⟨hp.2, by show s.2.length + k ≤ 6; omega, hs.2.2⟩
  · have hl := hs.2.1
    obtain ⟨e1, e2, e3⟩ := set_prs (by omega) (show s.2.length ≤ 50 by omega) hs.2.2
    exact Ok.eqn e1 (Ok.ret ⟨⟨e2, e3⟩, hs.1⟩)
theorem right_ok {h : Hand} {w : Int} {F : List (List Int)} {T : List (Int × Int)} (ho : HndOK h) (B : TabF w F) (hT : PrsOK F.length T) (hl : T.length ≤ 50) : Ok (n__law_is_right h w F T) fun p => p.1 = true ∧ HndOK p.2 := by
  have C := chkN B
  have h5 := B.n5
  have h1 := B.n1
  unfold n__law_is_right
  rw [law_age_ok B hT, R.bind_ok, law_sure_ok B (fun o ho => (List.mem_filter.mp ho).1), R.bind_ok, age_ok B hT (by omega), R.bind_ok, surely_ok B hT (by omega), R.bind_ok]
  simp only [n__law_same, decide_true, R.bind_ok, Bool.not_true, Bool.false_eq_true, if_false]
  rw [R.lt_eq]
  obtain ⟨s1, s2⟩ := sort_prs B hT
  have hls : (sortE (encP encI encI) (T.map fun v7 => (v7.2, v7.1))).length ≤ 50 := by
    rw [(sortE_perm (encP encI encI) (T.map fun v7 => (v7.2, v7.1))).length_eq, List.length_map]; exact hl
  rw [age_ok B s1 (by omega), R.bind_ok, back_ok B hT s1 s2]
  simp only [decide_true, Bool.not_true, Bool.false_eq_true, if_false]
  refine Ok.bind (P := fun b : Bool => b = false) ?_ fun b hb => ?_
  · split
    · rw [age_ok B (sure_ok B hT) (by have := sure_len (N := F.length) (by omega) (by omega) ((ords F.length).filter (okA F T)); omega), R.bind_ok, sure_same B hT]
      exact Ok.ret (by simp)
    · exact Ok.ret rfl
  · subst hb
    simp only [Bool.false_eq_true, if_false]
    refine (draw_ok _ _ ho (by omega) (by omega)).nx.bind fun v13 h13 => ?_
    refine (draw_ok _ _ h13.2.2 (by omega) (by omega)).nx.bind fun v14 h14 => ?_
    have ha : v13.1 ∈ rng F.length := rng_mem.mpr ⟨h13.1, h13.2.1⟩
    have hb : v14.1 ∈ rng F.length := rng_mem.mpr ⟨h14.1, h14.2.1⟩
    refine Ok.eqn (catR_ok (by split <;> simp <;> omega)) ?_
    obtain ⟨T2, e1, e2, e3, e4⟩ := more_ok B hT hl ha hb
    refine Ok.eqn e1 ?_
    refine Ok.eqn (age_ok B e3 (by omega)) ?_
    refine Ok.eqn (mapSR_test (f := fun o => if decide (v13.1 = v14.1) = true then R.ok true else (indexR o v13.1).bind fun v24 => (indexR o v14.1).bind fun v25 => R.ok (decide (v24 < v25))) (p := fun o => decide (v13.1 = v14.1) || bef o (v13.1, v14.1)) fun o ho => ?_) ?_
    · have ho' := (List.mem_filter.mp ho).1
      by_cases c : v13.1 = v14.1
      · simp [c]
      · rw [if_neg (by simpa using c), C.ig o ho' _ ha, R.bind_ok, C.ig o ho' _ hb, R.bind_ok, decide_eq_false c]; rfl
    · rw [e4]
      exact Ok.ret ⟨by simp, h14.2.2⟩
theorem TA : TabF 2 [[0], [0, 1], [1]] := ⟨by decide, by decide, by decide, by decide, by decide⟩
theorem TB : TabF 1 [[0], [], [0]] := ⟨by decide, by decide, by decide, by decide, by decide⟩
theorem TC : TabF 1 [[], []] := ⟨by decide, by decide, by decide, by decide, by decide⟩
theorem known1 : n_age_orders 2 [[0], [0, 1], [1]] [] = .ok [[0, 1, 2], [2, 1, 0]] := (age_ok TA ⟨.nil, (fun _ z => nomatch z), (fun _ z => nomatch z)⟩ (by decide)).trans (congrArg R.ok (by decide +kernel))
theorem known2 : n_surely_ahead 2 [[0], [0, 1], [1]] [(0, 2)] = .ok [(0, 1), (0, 2), (1, 2)] := (surely_ok TA ⟨by decide, by decide, by decide⟩ (by decide)).trans (congrArg R.ok (by decide +kernel))
theorem known3 : n_age_orders 1 [[0], [], [0]] [(1, 0)] = .ok [[1, 0, 2], [1, 2, 0]] := (age_ok TB ⟨by decide, by decide, by decide⟩ (by decide)).trans (congrArg R.ok (by decide +kernel))
theorem known4 : n_surely_ahead 1 [[], []] [(0, 1), (1, 0)] = .ok [(0, 1), (1, 0)] := (surely_ok TC ⟨by decide, by decide, by decide⟩ (by decide)).trans (congrArg R.ok (by decide +kernel))
theorem n_law_ok (ns : List Int) : n_law ns = .ok true := by
  have o : Ok (n_law ns) (· = true) := by
    unfold n_law
    refine Ok.bind (P := HndOK) (Ok.ret (hand_cells ns _)) fun v1 h1 => ?_
    rw [R.lt_eq]
    dsimp only
    rw [known1, R.bind_ok, known2, R.bind_ok]
    simp only [n__law_same, decide_true, R.bind_ok, Bool.not_true, Bool.false_eq_true, if_false]
    rw [known3, R.bind_ok, known4, R.bind_ok]
    simp only [n__law_same, decide_true, R.bind_ok, Bool.not_true, Bool.false_eq_true, if_false]
    rw [rngR_0 (by omega) (by omega), R.bind_ok]
    refine (ok_loopR (I := HndOK) h1 fun s x _ hs => ?_).bind fun l hl => ?_
    · refine (drawn_ok hs).nx.bind fun v14 h14 => ?_
      have B := h14.1
      have n1 := B.n1
      have n5 := B.n5
      refine Ok.bind (P := fun p => p.1 = false ∧ HndOK p.2) ?_ fun p hp => ?_
      · refine (pairs_ok h14.2 (by omega) (by omega)).nx.bind fun v15 h15 => ?_
        exact (right_ok h15.2 B h15.1.1 h15.1.2).nx.bind fun p hp => Ok.ret ⟨by simp [hp.1], hp.2⟩
      · rw [if_neg (by rw [hp.1]; decide)]
        exact Ok.ret ⟨_, rfl, hp.2⟩
    · obtain ⟨s2, rfl, _⟩ := hl
      exact Ok.ret rfl
  obtain ⟨a, e, rfl⟩ := o
  exact e
theorem law_math : ∀ ns : List Int, ns.length ≤ 63 → ∃ h', d_law [.ins 0 (ns.map Val.int)] [] = .ok (.bl true) h' := by
  intro ns _
  have r := b_n_law ns
  rw [n_law_ok] at r
  obtain ⟨b, h, e, q⟩ := r
  exact ⟨h, by rw [← show b = Val.bl true from q]; exact e⟩
end SW

namespace SW
open PySem PySem.Spec PyProof.Rows L2
def topS (i : Nat) : Stmt := PySem.Challenge.pw_stretchwebs_k84_whole_orders_by_age.main.body.getD i (.Pass ⟨0, 0, 0, 0⟩)
abbrev s_is_integer : Stmt := topS 7
theorem sc_is_integer : FnScope ["thing"] ["thing"] (defScope s_is_integer) := ⟨rfl, rfl, rfl, by decide +kernel, rfl, by decide +kernel, by decide +kernel⟩
abbrev s_is_within : Stmt := topS 8
theorem sc_is_within : FnScope ["thing", "low", "high"] ["thing", "low", "high"] (defScope s_is_within) := ⟨rfl, rfl, rfl, by decide +kernel, rfl, by decide +kernel, by decide +kernel⟩
abbrev s_is_lot : Stmt := topS 9
theorem sc_is_lot : FnScope ["limit", "thing", "one", "at"] ["limit", "thing"] (defScope s_is_lot) := ⟨rfl, rfl, rfl, by decide +kernel, rfl, by decide +kernel, by decide +kernel⟩
abbrev s_check_finds : Stmt := topS 14
theorem sc_check_finds : FnScope ["wide", "finds", "find"] ["wide", "finds"] (defScope s_check_finds) := ⟨rfl, rfl, rfl, by decide +kernel, rfl, by decide +kernel, by decide +kernel⟩
abbrev s_is_told : Stmt := topS 15
theorem sc_is_told : FnScope ["many", "pair", "one"] ["many", "pair"] (defScope s_is_told) := ⟨rfl, rfl, rfl, by decide +kernel, rfl, by decide +kernel, by decide +kernel⟩
abbrev s_check_told : Stmt := topS 16
theorem sc_check_told : FnScope ["wide", "finds", "told", "pair", "at"] ["wide", "finds", "told"] (defScope s_check_told) := ⟨rfl, rfl, rfl, by decide +kernel, rfl, by decide +kernel, by decide +kernel⟩
abbrev s_can_follow : Stmt := topS 17
theorem sc_can_follow : FnScope ["finds", "order", "find", "last", "one", "ware"] ["finds", "order", "find"] (defScope s_can_follow) := ⟨rfl, rfl, rfl, by decide +kernel, rfl, by decide +kernel, by decide +kernel⟩
abbrev s_orders_by_age : Stmt := topS 18
theorem sc_orders_by_age : FnScope ["finds", "told", "most", "found", "waiting", "order", "rest", "one", "pair"] ["finds", "told", "most"] (defScope s_orders_by_age) := ⟨rfl, rfl, rfl, by decide +kernel, rfl, by decide +kernel, by decide +kernel⟩
abbrev s_age_orders : Stmt := topS 19
theorem sc_age_orders : FnScope ["wide", "finds", "told", "found"] ["wide", "finds", "told"] (defScope s_age_orders) := ⟨rfl, rfl, rfl, by decide +kernel, rfl, by decide +kernel, by decide +kernel⟩
abbrev s_stands_ahead : Stmt := topS 21
theorem sc_stands_ahead : FnScope ["orders", "a", "b", "order"] ["orders", "a", "b"] (defScope s_stands_ahead) := ⟨rfl, rfl, rfl, by decide +kernel, rfl, by decide +kernel, by decide +kernel⟩
abbrev s_surely_ahead : Stmt := topS 20
theorem sc_surely_ahead : FnScope ["wide", "finds", "told", "found", "sure", "a", "b"] ["wide", "finds", "told"] (defScope s_surely_ahead) := ⟨rfl, rfl, rfl, by decide +kernel, rfl, by decide +kernel, by decide +kernel⟩
abbrev s__law_hand : Stmt := topS 23
theorem sc__law_hand : FnScope ["script", "cells", "cell"] ["script"] (defScope s__law_hand) := ⟨rfl, rfl, rfl, by decide +kernel, rfl, by decide +kernel, by decide +kernel⟩
abbrev s__law_same : Stmt := topS 27
theorem sc__law_same : FnScope ["one", "due", "a", "b"] ["one", "due"] (defScope s__law_same) := ⟨rfl, rfl, rfl, by decide +kernel, rfl, by decide +kernel, by decide +kernel⟩
abbrev s__law_draw : Stmt := topS 24
theorem sc__law_draw : FnScope ["hand", "many", "cell", "digit", "amount"] ["hand", "many"] (defScope s__law_draw) := ⟨rfl, rfl, rfl, by decide +kernel, rfl, by decide +kernel, by decide +kernel⟩
abbrev s__law_any : Stmt := topS 25
theorem sc__law_any : FnScope ["hand", "some"] ["hand", "some"] (defScope s__law_any) := ⟨rfl, rfl, rfl, by decide +kernel, rfl, by decide +kernel, by decide +kernel⟩
abbrev s__law_mixed : Stmt := topS 26
theorem sc__law_mixed : FnScope ["hand", "things", "pool", "found"] ["hand", "things"] (defScope s__law_mixed) := ⟨rfl, rfl, rfl, by decide +kernel, rfl, by decide +kernel, by decide +kernel⟩
abbrev s__law_finds : Stmt := topS 29
theorem sc__law_finds : FnScope ["hand", "most", "wide", "many", "found", "find", "ware", "spans", "low", "order", "at", "one"] ["hand", "most"] (defScope s__law_finds) := ⟨rfl, rfl, rfl, by decide +kernel, rfl, by decide +kernel, by decide +kernel⟩
abbrev s__law_told_pairs : Stmt := topS 30
theorem sc__law_told_pairs : FnScope ["hand", "many", "order", "some", "lap", "a", "b"] ["hand", "many"] (defScope s__law_told_pairs) := ⟨rfl, rfl, rfl, by decide +kernel, rfl, by decide +kernel, by decide +kernel⟩
abbrev s__law_orders : Stmt := topS 28
theorem sc__law_orders : FnScope ["many", "found", "lap", "longer", "row", "one"] ["many"] (defScope s__law_orders) := ⟨rfl, rfl, rfl, by decide +kernel, rfl, by decide +kernel, by decide +kernel⟩
abbrev s__law_together : Stmt := topS 31
theorem sc__law_together : FnScope ["wide", "finds", "order", "ware", "places", "at", "find"] ["wide", "finds", "order"] (defScope s__law_together) := ⟨rfl, rfl, rfl, by decide +kernel, rfl, by decide +kernel, by decide +kernel⟩
abbrev s__law_keeps : Stmt := topS 32
theorem sc__law_keeps : FnScope ["order", "pairs", "a", "b"] ["order", "pairs"] (defScope s__law_keeps) := ⟨rfl, rfl, rfl, by decide +kernel, rfl, by decide +kernel, by decide +kernel⟩
abbrev s__law_age_orders : Stmt := topS 33
theorem sc__law_age_orders : FnScope ["wide", "finds", "pairs", "order"] ["wide", "finds", "pairs"] (defScope s__law_age_orders) := ⟨rfl, rfl, rfl, by decide +kernel, rfl, by decide +kernel, by decide +kernel⟩
abbrev s__law_sure : Stmt := topS 34
theorem sc__law_sure : FnScope ["many", "orders", "found", "a", "b", "order"] ["many", "orders"] (defScope s__law_sure) := ⟨rfl, rfl, rfl, by decide +kernel, rfl, by decide +kernel, by decide +kernel⟩
abbrev s__law_is_right : Stmt := topS 35
theorem sc__law_is_right : FnScope ["hand", "wide", "finds", "pairs", "many", "own", "sure_ones", "back", "a", "b", "order", "one", "other", "more"] ["hand", "wide", "finds", "pairs"] (defScope s__law_is_right) := ⟨rfl, rfl, rfl, by decide +kernel, rfl, by decide +kernel, by decide +kernel⟩
abbrev s_law : Stmt := topS 36
theorem sc_law : FnScope ["script", "hand", "finds", "lap", "wide"] ["script"] (defScope s_law) := ⟨rfl, rfl, rfl, by decide +kernel, rfl, by decide +kernel, by decide +kernel⟩
structure Bt (T : Tab) (mg : Str → Option Value) : Prop where
  b_abs : mg "abs" = none
  b_all : mg "all" = none
  b_any : mg "any" = none
  b_bool : mg "bool" = none
  b_enumerate : mg "enumerate" = none
  b_int : mg "int" = none
  b_isinstance : mg "isinstance" = none
  b_len : mg "len" = none
  b_list : mg "list" = none
  b_max : mg "max" = none
  b_range : mg "range" = none
  b_set : mg "set" = none
  b_sorted : mg "sorted" = none
  b_tuple : mg "tuple" = none
  b_zip : mg "zip" = none
  g_MOST_WARES : Gk T mg "MOST_WARES" c_MOST_WARES
  g_MOST_ORDERS : Gk T mg "MOST_ORDERS" c_MOST_ORDERS
  g_MOST_FINDS : Gk T mg "MOST_FINDS" c_MOST_FINDS
section
variable {P : Program} {w : World} {K : PySem.W.Frag} {mg : Str → Option Value} {base : Heap} {cA : Nat → Addr} {cF : Nat → List Str} {f : Addr} {fd : FuncData}
theorem ok_is_integer (F : Fun K "is_integer" "is_integer" s_is_integer f fd) (B : Bt ⟨K, cA, cF⟩ mg)  : FnOk P w K mg base (L2.CX P w) 1 f fd ["thing"] (spOf ⟨K, cA, cF⟩ d_is_integer 1) :=
  fn_okX (k := 0) (ps := ["thing"]) (N := ["thing"]) (ms := b_is_integer) rfl F sc_is_integer (fun cdv A outer s H E hr => (css_one (cs_ret (ce_and (ce_isi .int (fun z => nomatch z) (ce_var 0) (by rfl) B.b_isinstance bb_isinstance (by rfl) B.b_int bb_int) (ce_one (ce_not (ce_isi .bool (fun z => nomatch z) (ce_var 0) (by rfl) B.b_isinstance bb_isinstance (by rfl) B.b_bool bb_bool)))))))
theorem ok_is_within (F : Fun K "is_within" "is_within" s_is_within f fd) (B : Bt ⟨K, cA, cF⟩ mg) (D_is_integer : Df P w K mg base ⟨K, cA, cF⟩ 1 "is_integer" 1 d_is_integer) : FnOk P w K mg base (L2.CX P w) 2 f fd ["thing", "low", "high"] (spOf ⟨K, cA, cF⟩ d_is_within 3) :=
  fn_okX (k := 1) (ps := ["thing", "low", "high"]) (N := ["thing", "low", "high"]) (ms := b_is_within) rfl F sc_is_within (fun cdv A outer s H E hr => (css_one (cs_ret (ce_and (ce_callP (D_is_integer.dk (hr.mono (by decide))) (by rfl) (ca_cons (ce_var 0) ca_nil)) (ce_one (ce_chain (fun ok => OpS.r (le_S ok)) (fun ok => OpS.r (le_S ok)) OpS.op OpS.op isB_ord (ce_var 1) (ce_var 0) (ce_var 2)))))))
theorem ok_is_lot (F : Fun K "is_lot" "is_lot" s_is_lot f fd) (B : Bt ⟨K, cA, cF⟩ mg) (D_is_within : Df P w K mg base ⟨K, cA, cF⟩ 2 "is_within" 3 d_is_within) : FnOk P w K mg base (L2.CX P w) 3 f fd ["limit", "thing"] (spOf ⟨K, cA, cF⟩ d_is_lot 2) :=
  fn_okX (k := 2) (ps := ["limit", "thing"]) (N := ["limit", "thing", "one", "at"]) (ms := b_is_lot) rfl F sc_is_lot (fun cdv A outer s H E hr => (css_cons (cs_if (ct_cw (cw_or (ct_not (ct_of (ce_isi .tup (fun z => nomatch z) (ce_var 1) (by rfl) B.b_isinstance bb_isinstance (by rfl) B.b_tuple bb_tuple))) (cw_or1 (ct_not (ct_of (ce_callB (fun ok => all_S ok) (by rfl) B.b_all bb_all (ca_cons (ce_frz (cn_comp [("one", 2)] (ci_seq (ce_var 1)) (fun _ _ _ _ _ => (cg_name 2)) (fun _ _ _ _ _ => cts_nil) (fun _ _ _ _ _ => (ce_callP (D_is_within.dk (hr.mono (by decide))) (by rfl) (ca_cons (ce_var 2) (ca_cons ce_int (ca_cons (ce_bop (fun ok => sub_S) (ce_var 0) ce_int) ca_nil))))))) ca_nil))))))) (css_one (cs_ret ce_bl)) css_nil)
    (css_one (cs_ret (ce_callB (fun ok => all_S ok) (by rfl) B.b_all bb_all (ca_cons (ce_frz (cn_comp [("at", 3)] (ci_range1 (ce_bop (fun ok => sub_S) (ce_callB (fun ok => len_S ok) (by rfl) B.b_len bb_len (ca_cons (ce_var 1) ca_nil)) ce_int) (by rfl) B.b_range) (fun _ _ _ _ _ => (cg_name 3)) (fun _ _ _ _ _ => cts_nil) (fun _ _ _ _ _ => (ce_cop (fun ok => lt_S ok) (ce_ix (ce_var 1) (ce_var 3)) (ce_ix (ce_var 1) (ce_bop (fun ok => add_S ok.k) (ce_var 3) ce_int)) (by first | exact nomark _ | rfl | decide))))) ca_nil))))))
theorem ok_check_finds (F : Fun K "check_finds" "check_finds" s_check_finds f fd) (B : Bt ⟨K, cA, cF⟩ mg) (D_is_within : Df P w K mg base ⟨K, cA, cF⟩ 2 "is_within" 3 d_is_within) (D_is_lot : Df P w K mg base ⟨K, cA, cF⟩ 3 "is_lot" 2 d_is_lot) : FnOk P w K mg base (L2.CX P w) 4 f fd ["wide", "finds"] (spOf ⟨K, cA, cF⟩ d_check_finds 2) :=
  fn_okX (k := 3) (ps := ["wide", "finds"]) (N := ["wide", "finds", "find"]) (ms := b_check_finds) rfl F sc_check_finds (fun cdv A outer s H E hr => (css_cons (cs_if (ct_not (ct_of (ce_callP (D_is_within.dk (hr.mono (by decide))) (by rfl) (ca_cons (ce_var 0) (ca_cons ce_int (ca_cons (ce_glob B.g_MOST_WARES (by rfl)) ca_nil)))))) (css_one cs_stuck) css_nil)
    (css_cons (cs_if (ct_cw (cw_or (ct_not (ct_of (ce_isi .tup (fun z => nomatch z) (ce_var 1) (by rfl) B.b_isinstance bb_isinstance (by rfl) B.b_tuple bb_tuple))) (cw_or1 (ct_not (ct_chain (fun ok => OpS.r (le_S ok)) (fun ok => OpS.r (le_S ok)) OpS.op OpS.op isB_ord isB_ord ce_int (ce_callB (fun ok => len_S ok) (by rfl) B.b_len bb_len (ca_cons (ce_var 1) ca_nil)) (ce_glob B.g_MOST_FINDS (by rfl))))))) (css_one cs_stuck) css_nil)
    (css_one (cs_if (ct_not (ct_of (ce_callB (fun ok => all_S ok) (by rfl) B.b_all bb_all (ca_cons (ce_frz (cn_comp [("find", 2)] (ci_seq (ce_var 1)) (fun _ _ _ _ _ => (cg_name 2)) (fun _ _ _ _ _ => cts_nil) (fun _ _ _ _ _ => (ce_callP (D_is_lot.dk (hr.mono (by decide))) (by rfl) (ca_cons (ce_var 0) (ca_cons (ce_var 2) ca_nil)))))) ca_nil)))) (css_one cs_stuck) css_nil)))))
theorem ok_is_told (F : Fun K "is_told" "is_told" s_is_told f fd) (B : Bt ⟨K, cA, cF⟩ mg) (D_is_within : Df P w K mg base ⟨K, cA, cF⟩ 2 "is_within" 3 d_is_within) : FnOk P w K mg base (L2.CX P w) 3 f fd ["many", "pair"] (spOf ⟨K, cA, cF⟩ d_is_told 2) :=
  fn_okX (k := 2) (ps := ["many", "pair"]) (N := ["many", "pair", "one"]) (ms := b_is_told) rfl F sc_is_told (fun cdv A outer s H E hr => (css_cons (cs_if (ct_cw (cw_or (ct_not (ct_of (ce_isi .tup (fun z => nomatch z) (ce_var 1) (by rfl) B.b_isinstance bb_isinstance (by rfl) B.b_tuple bb_tuple))) (cw_or (ct_cop (fun ok => ne_S ok) isB_dd (ce_callB (fun ok => len_S ok) (by rfl) B.b_len bb_len (ca_cons (ce_var 1) ca_nil)) ce_int (by first | exact nomark _ | rfl | decide)) (cw_or1 (ct_not (ct_of (ce_callB (fun ok => all_S ok) (by rfl) B.b_all bb_all (ca_cons (ce_frz (cn_comp [("one", 2)] (ci_seq (ce_var 1)) (fun _ _ _ _ _ => (cg_name 2)) (fun _ _ _ _ _ => cts_nil) (fun _ _ _ _ _ => (ce_callP (D_is_within.dk (hr.mono (by decide))) (by rfl) (ca_cons (ce_var 2) (ca_cons ce_int (ca_cons (ce_bop (fun ok => sub_S) (ce_var 0) ce_int) ca_nil))))))) ca_nil)))))))) (css_one (cs_ret ce_bl)) css_nil)
    (css_one (cs_ret (ce_cop (fun ok => ne_S ok) (ce_ix (ce_var 1) ce_int) (ce_ix (ce_var 1) ce_int) (by first | exact nomark _ | rfl | decide))))))
theorem ok_check_told (F : Fun K "check_told" "check_told" s_check_told f fd) (B : Bt ⟨K, cA, cF⟩ mg) (D_check_finds : Df P w K mg base ⟨K, cA, cF⟩ 4 "check_finds" 2 d_check_finds) (D_is_told : Df P w K mg base ⟨K, cA, cF⟩ 3 "is_told" 2 d_is_told) : FnOk P w K mg base (L2.CX P w) 5 f fd ["wide", "finds", "told"] (spOf ⟨K, cA, cF⟩ d_check_told 3) :=
  fn_okX (k := 4) (ps := ["wide", "finds", "told"]) (N := ["wide", "finds", "told", "pair", "at"]) (ms := b_check_told) rfl F sc_check_told (fun cdv A outer s H E hr => (css_cons (cs_expr (ce_callP (D_check_finds.dk (hr.mono (by decide))) (by rfl) (ca_cons (ce_var 0) (ca_cons (ce_var 1) ca_nil))))
    (css_cons (cs_if (ct_cw (cw_or (ct_not (ct_of (ce_isi .tup (fun z => nomatch z) (ce_var 2) (by rfl) B.b_isinstance bb_isinstance (by rfl) B.b_tuple bb_tuple))) (cw_or1 (ct_not (ct_of (ce_callB (fun ok => all_S ok) (by rfl) B.b_all bb_all (ca_cons (ce_frz (cn_comp [("pair", 3)] (ci_seq (ce_var 2)) (fun _ _ _ _ _ => (cg_name 3)) (fun _ _ _ _ _ => cts_nil) (fun _ _ _ _ _ => (ce_callP (D_is_told.dk (hr.mono (by decide))) (by rfl) (ca_cons (ce_callB (fun ok => len_S ok) (by rfl) B.b_len bb_len (ca_cons (ce_var 1) ca_nil)) (ca_cons (ce_var 3) ca_nil)))))) ca_nil))))))) (css_one cs_stuck) css_nil)
    (css_one (cs_if (ct_not (ct_of (ce_callB (fun ok => all_S ok) (by rfl) B.b_all bb_all (ca_cons (ce_frz (cn_comp [("at", 4)] (ci_range1 (ce_bop (fun ok => sub_S) (ce_callB (fun ok => len_S ok) (by rfl) B.b_len bb_len (ca_cons (ce_var 2) ca_nil)) ce_int) (by rfl) B.b_range) (fun _ _ _ _ _ => (cg_name 4)) (fun _ _ _ _ _ => cts_nil) (fun _ _ _ _ _ => (ce_cop (fun ok => lt_S ok) (ce_ix (ce_var 2) (ce_var 4)) (ce_ix (ce_var 2) (ce_bop (fun ok => add_S ok.k) (ce_var 4) ce_int)) (by first | exact nomark _ | rfl | decide))))) ca_nil)))) (css_one cs_stuck) css_nil)))))
theorem ok_can_follow (F : Fun K "can_follow" "can_follow" s_can_follow f fd) (B : Bt ⟨K, cA, cF⟩ mg)  : FnOk P w K mg base (L2.CX P w) 1 f fd ["finds", "order", "find"] (spOf ⟨K, cA, cF⟩ d_can_follow 3) :=
  fn_okX (k := 0) (ps := ["finds", "order", "find"]) (N := ["finds", "order", "find", "last", "one", "ware"]) (ms := b_can_follow) rfl F sc_can_follow (fun cdv A outer s H E hr => (css_cons (cs_if (ct_cop (fun ok => eq_S ok) isB_dd (ce_callB (fun ok => len_S ok) (by rfl) B.b_len bb_len (ca_cons (ce_var 1) ca_nil)) ce_int (by first | exact nomark _ | rfl | decide)) (css_one (cs_ret ce_bl)) css_nil)
    (css_cons (cs_set 3 (ce_ix (ce_var 0) (ce_ix (ce_var 1) (ce_neg ce_int))))
    (css_one (cs_ret (ce_not (ce_callB (fun ok => any_S ok) (by rfl) B.b_any bb_any (ca_cons (ce_frz (cn_comp [("ware", 5)] (ci_seq (ce_ix (ce_var 0) (ce_var 2))) (fun _ _ _ _ _ => (cg_name 5)) (fun _ _ _ _ _ => cts_nil) (fun _ _ _ _ _ => (ce_and (ce_cop (fun ok => notIn_S ok) (ce_var 5) (ce_var 3) (by first | exact nomark _ | rfl | decide)) (ce_one (ce_callB (fun ok => any_S ok) (by rfl) B.b_any bb_any (ca_cons (ce_frz (cn_comp [("one", 4)] (ci_seq (ce_var 1)) (fun _ _ _ _ _ => (cg_name 4)) (fun _ _ _ _ _ => cts_nil) (fun _ _ _ _ _ => (ce_cop (fun ok => in_S ok) (ce_var 5) (ce_ix (ce_var 0) (ce_var 4)) (by first | exact nomark _ | rfl | decide))))) ca_nil))))))) ca_nil))))))))
theorem ok_orders_by_age (F : Fun K "orders_by_age" "orders_by_age" s_orders_by_age f fd) (B : Bt ⟨K, cA, cF⟩ mg) (D_can_follow : Df P w K mg base ⟨K, cA, cF⟩ 1 "can_follow" 3 d_can_follow) : FnOk P w K mg base (L2.CX P w) 2 f fd ["finds", "told", "most"] (spOf ⟨K, cA, cF⟩ d_orders_by_age 3) :=
  fn_okX (k := 1) (ps := ["finds", "told", "most"]) (N := ["finds", "told", "most", "found", "waiting", "order", "rest", "one", "pair"]) (ms := b_orders_by_age) rfl F sc_orders_by_age (fun cdv A outer s H E hr => (css_cons (cs_par 3 4 (ca_cons (ce_loc (cn_lst ca_nil)) (ca_cons (ce_loc (cn_lst (ca_cons (ce_tup ca_nil) ca_nil))) ca_nil)))
    (css_cons (cs_while (ct_cw (cw_and (ct_cop (fun ok => gt_S ok) isB_ord (ce_callB (fun ok => len_S ok) (by rfl) B.b_len bb_len (ca_cons (ce_var 4) ca_nil)) ce_int (by first | exact nomark _ | rfl | decide)) (cw_and1 (ct_cop (fun ok => lt_S ok) isB_ord (ce_callB (fun ok => len_S ok) (by rfl) B.b_len bb_len (ca_cons (ce_var 3) ca_nil)) (ce_var 2) (by first | exact nomark _ | rfl | decide))))) (css_wipe [5, 6] (css_cons (cs_set 5 (ce_met0 pop_W mt_pop PySem.F.slot_list_pop PySem.F.type_list_pop (ce_var 4)))
    (css_one (cs_if (ct_cop (fun ok => eq_S ok) isB_dd (ce_callB (fun ok => len_S ok) (by rfl) B.b_len bb_len (ca_cons (ce_var 5) ca_nil)) (ce_callB (fun ok => len_S ok) (by rfl) B.b_len bb_len (ca_cons (ce_var 0) ca_nil)) (by first | exact nomark _ | rfl | decide)) (css_one (cs_expr (ce_met append_W mt_append PySem.F.slot_list_append PySem.F.type_list_append (ce_var 3) (ca_cons (ce_var 5) ca_nil)))) (css_cons (cs_setLc kept_frz 6 [("one", 7)] (ci_range1 (ce_callB (fun ok => len_S ok) (by rfl) B.b_len bb_len (ca_cons (ce_var 0) ca_nil)) (by rfl) B.b_range) (fun _ _ _ _ _ => (cg_name 7)) (fun _ _ _ _ _ => cts_one (ct_cw (cw_and (ct_cop (fun ok => notIn_S ok) isB_inn (ce_var 7) (ce_var 5) (by first | exact nomark _ | rfl | decide)) (cw_and1 (ct_of (ce_callP (D_can_follow.dk (hr.mono (by decide))) (by rfl) (ca_cons (ce_var 0) (ca_cons (ce_var 5) (ca_cons (ce_var 7) ca_nil))))))))) (fun _ _ _ _ _ => (ce_var 7)))
    (css_cons (cs_setLc kept_frz 6 [("one", 7)] (ci_seq (ce_var 6)) (fun _ _ _ _ _ => (cg_name 7)) (fun _ _ _ _ _ => cts_one (ct_not (ct_of (ce_callB (fun ok => any_S ok) (by rfl) B.b_any bb_any (ca_cons (ce_frz (cn_comp [("pair", 8)] (ci_seq (ce_var 1)) (fun _ _ _ _ _ => (cg_name 8)) (fun _ _ _ _ _ => cts_nil) (fun _ _ _ _ _ => (ce_and (ce_cop (fun ok => eq_S ok) (ce_ix (ce_var 8) ce_int) (ce_var 7) (by first | exact nomark _ | rfl | decide)) (ce_one (ce_cop (fun ok => notIn_S ok) (ce_ix (ce_var 8) ce_int) (ce_var 5) (by first | exact nomark _ | rfl | decide))))))) ca_nil))))) (fun _ _ _ _ _ => (ce_var 7)))
    (css_one (cs_expr (ce_met extend_W mt_extend PySem.F.slot_list_extend PySem.F.type_list_extend (ce_var 4) (ca_cons (ce_frz (cn_comp [("one", 7)] (ci_seq (ce_revA (ce_var 6))) (fun _ _ _ _ _ => (cg_name 7)) (fun _ _ _ _ _ => cts_nil) (fun _ _ _ _ _ => (ce_bop (fun ok => add_S ok.k) (ce_var 5) (ce_tup (ca_cons (ce_var 7) ca_nil)))))) ca_nil)))))))))))
    (css_one (cs_ret (ce_move 3))))))
theorem ok_age_orders (F : Fun K "age_orders" "age_orders" s_age_orders f fd) (B : Bt ⟨K, cA, cF⟩ mg) (D_check_told : Df P w K mg base ⟨K, cA, cF⟩ 5 "check_told" 3 d_check_told) (D_orders_by_age : Df P w K mg base ⟨K, cA, cF⟩ 2 "orders_by_age" 3 d_orders_by_age) : FnOk P w K mg base (L2.CX P w) 6 f fd ["wide", "finds", "told"] (spOf ⟨K, cA, cF⟩ d_age_orders 3) :=
  fn_okX (k := 5) (ps := ["wide", "finds", "told"]) (N := ["wide", "finds", "told", "found"]) (ms := b_age_orders) rfl F sc_age_orders (fun cdv A outer s H E hr => (css_cons (cs_expr (ce_callP (D_check_told.dk (hr.mono (by decide))) (by rfl) (ca_cons (ce_var 0) (ca_cons (ce_var 1) (ca_cons (ce_var 2) ca_nil)))))
    (css_cons (cs_set 3 (ce_callP (D_orders_by_age.dk (hr.mono (by decide))) (by rfl) (ca_cons (ce_var 1) (ca_cons (ce_var 2) (ca_cons (ce_bop (fun ok => add_S ok.k) (ce_glob B.g_MOST_ORDERS (by rfl)) ce_int) ca_nil)))))
    (css_cons (cs_if (ct_cop (fun ok => gt_S ok) isB_ord (ce_callB (fun ok => len_S ok) (by rfl) B.b_len bb_len (ca_cons (ce_var 3) ca_nil)) (ce_glob B.g_MOST_ORDERS (by rfl)) (by first | exact nomark _ | rfl | decide)) (css_one cs_stuck) css_nil)
    (css_one (cs_ret (ce_callTy (fun ok => tuple_S ok) (by rfl) B.b_tuple bb_tuple (ca_cons (ce_var 3) ca_nil))))))))
theorem ok_stands_ahead (F : Fun K "stands_ahead" "stands_ahead" s_stands_ahead f fd) (B : Bt ⟨K, cA, cF⟩ mg)  : FnOk P w K mg base (L2.CX P w) 1 f fd ["orders", "a", "b"] (spOf ⟨K, cA, cF⟩ d_stands_ahead 3) :=
  fn_okX (k := 0) (ps := ["orders", "a", "b"]) (N := ["orders", "a", "b", "order"]) (ms := b_stands_ahead) rfl F sc_stands_ahead (fun cdv A outer s H E hr => (css_one (cs_ret (ce_callB (fun ok => all_S ok) (by rfl) B.b_all bb_all (ca_cons (ce_frz (cn_comp [("order", 3)] (ci_seq (ce_var 0)) (fun _ _ _ _ _ => (cg_name 3)) (fun _ _ _ _ _ => cts_nil) (fun _ _ _ _ _ => (ce_cop (fun ok => lt_S ok) (ce_idxT (ce_var 3) (ce_var 1)) (ce_idxT (ce_var 3) (ce_var 2)) (by first | exact nomark _ | rfl | decide))))) ca_nil)))))
theorem ok_surely_ahead (F : Fun K "surely_ahead" "surely_ahead" s_surely_ahead f fd) (B : Bt ⟨K, cA, cF⟩ mg) (D_check_told : Df P w K mg base ⟨K, cA, cF⟩ 5 "check_told" 3 d_check_told) (D_orders_by_age : Df P w K mg base ⟨K, cA, cF⟩ 2 "orders_by_age" 3 d_orders_by_age) (D_stands_ahead : Df P w K mg base ⟨K, cA, cF⟩ 1 "stands_ahead" 3 d_stands_ahead) : FnOk P w K mg base (L2.CX P w) 6 f fd ["wide", "finds", "told"] (spOf ⟨K, cA, cF⟩ d_surely_ahead 3) :=
  fn_okX (k := 5) (ps := ["wide", "finds", "told"]) (N := ["wide", "finds", "told", "found", "sure", "a", "b"]) (ms := b_surely_ahead) rfl F sc_surely_ahead (fun cdv A outer s H E hr => (css_cons (cs_expr (ce_callP (D_check_told.dk (hr.mono (by decide))) (by rfl) (ca_cons (ce_var 0) (ca_cons (ce_var 1) (ca_cons (ce_var 2) ca_nil)))))
    (css_cons (cs_set 3 (ce_callP (D_orders_by_age.dk (hr.mono (by decide))) (by rfl) (ca_cons (ce_var 1) (ca_cons (ce_var 2) (ca_cons (ce_bop (fun ok => add_S ok.k) (ce_glob B.g_MOST_ORDERS (by rfl)) ce_int) ca_nil)))))
    (css_cons (cs_if (ct_cop (fun ok => gt_S ok) isB_ord (ce_callB (fun ok => len_S ok) (by rfl) B.b_len bb_len (ca_cons (ce_var 3) ca_nil)) (ce_glob B.g_MOST_ORDERS (by rfl)) (by first | exact nomark _ | rfl | decide)) (css_one cs_stuck) css_nil)
    (css_cons (cs_set 4 (ce_loc (cn_lst ca_nil)))
    (css_cons (cs_for (ci_range1 (ce_callB (fun ok => len_S ok) (by rfl) B.b_len bb_len (ca_cons (ce_var 1) ca_nil)) (by rfl) B.b_range) (cg_name 5) (css_wipe [5] (css_one (cs_expr (ce_met extend_W mt_extend PySem.F.slot_list_extend PySem.F.type_list_extend (ce_var 4) (ca_cons (ce_frz (cn_comp [("b", 6)] (ci_range1 (ce_callB (fun ok => len_S ok) (by rfl) B.b_len bb_len (ca_cons (ce_var 1) ca_nil)) (by rfl) B.b_range) (fun _ _ _ _ _ => (cg_name 6)) (fun _ _ _ _ _ => cts_one (ct_cw (cw_and (ct_cop (fun ok => ne_S ok) isB_dd (ce_var 5) (ce_var 6) (by first | exact nomark _ | rfl | decide)) (cw_and1 (ct_of (ce_callP (D_stands_ahead.dk (hr.mono (by decide))) (by rfl) (ca_cons (ce_var 3) (ca_cons (ce_var 5) (ca_cons (ce_var 6) ca_nil))))))))) (fun _ _ _ _ _ => (ce_tup (ca_cons (ce_var 5) (ca_cons (ce_var 6) ca_nil)))))) ca_nil))))))
    (css_one (cs_ret (ce_callTy (fun ok => tuple_S ok) (by rfl) B.b_tuple bb_tuple (ca_cons (ce_var 4) ca_nil))))))))))
theorem ok__law_hand (F : Fun K "_law_hand" "_law_hand" s__law_hand f fd) (B : Bt ⟨K, cA, cF⟩ mg)  : FnOk P w K mg base (L2.CX P w) 1 f fd ["script"] (spOf ⟨K, cA, cF⟩ d__law_hand 1) :=
  fn_okX (k := 0) (ps := ["script"]) (N := ["script", "cells", "cell"]) (ms := b__law_hand) rfl F sc__law_hand (fun cdv A outer s H E hr => (css_cons (cs_setLc kept_frz 1 [("cell", 2)] (ci_seq (ce_cut (ce_var 0) co_none (co_some ce_int))) (fun _ _ _ _ _ => (cg_name 2)) (fun _ _ _ _ _ => cts_nil) (fun _ _ _ _ _ => (ce_callB (fun ok => abs_S) (by rfl) B.b_abs bb_abs (ca_cons (ce_callTy (fun ok => int_S) (by rfl) B.b_int bb_int (ca_cons (ce_var 2) ca_nil)) ca_nil))))
    (css_one (cs_ret (ce_loc (cn_lst (ca_cons (ce_var 1) (ca_cons ce_int (ca_cons ce_int (ca_cons (ce_bop (fun ok => add_S ok.k) ce_int (ce_bop (fun ok => mul_S ok.k) ce_int (ce_callB (fun ok => len_S ok) (by rfl) B.b_len bb_len (ca_cons (ce_var 1) ca_nil)))) (ca_cons ce_int ca_nil)))))))))))
theorem ok__law_same (F : Fun K "_law_same" "_law_same" s__law_same f fd) (B : Bt ⟨K, cA, cF⟩ mg)  (hm : mg "_law_same" = some (.ref f)) (hb : Binds K fd ["one", "due"] []) : FnOk P w K mg base (L2.CX P w) 21 f fd ["one", "due"] (spOf ⟨K, cA, cF⟩ d__law_same 2) := by
  refine rec_ok (k := 1) (d := r__law_same) (ps := ["one", "due"]) (fun _ _ => rfl) (fun n G => ?_) 20
  have D__law_same : Df P w K mg base ⟨K, cA, cF⟩ (1 + n) "_law_same" 2 (r__law_same n) := Df.mk' F G hm hb
  exact fn_okX (k := 1 + n) (ps := ["one", "due"]) (N := ["one", "due", "a", "b"]) (ms := b__law_same (r__law_same n)) rfl F sc__law_same (fun cdv A outer s H E hr => (css_cons (cs_if (ct_cw (cw_or (ct_of (ce_isi .tup (fun z => nomatch z) (ce_var 1) (by rfl) B.b_isinstance bb_isinstance (by rfl) B.b_tuple bb_tuple)) (cw_or1 (ct_of (ce_isi .lst (fun z => nomatch z) (ce_var 1) (by rfl) B.b_isinstance bb_isinstance (by rfl) B.b_list bb_list))))) (css_cons (cs_if (ct_cw (cw_or (ct_cop (fun ok => ne_S ok) isB_dd (ce_isi .tup (fun z => nomatch z) (ce_var 0) (by rfl) B.b_isinstance bb_isinstance (by rfl) B.b_tuple bb_tuple) (ce_isi .tup (fun z => nomatch z) (ce_var 1) (by rfl) B.b_isinstance bb_isinstance (by rfl) B.b_tuple bb_tuple) (by first | exact nomark _ | rfl | decide)) (cw_or1 (ct_cop (fun ok => ne_S ok) isB_dd (ce_isi .lst (fun z => nomatch z) (ce_var 0) (by rfl) B.b_isinstance bb_isinstance (by rfl) B.b_list bb_list) (ce_isi .lst (fun z => nomatch z) (ce_var 1) (by rfl) B.b_isinstance bb_isinstance (by rfl) B.b_list bb_list) (by first | exact nomark _ | rfl | decide))))) (css_one (cs_ret ce_bl)) css_nil)
    (css_one (cs_ret (ce_and (ce_cop (fun ok => eq_S ok) (ce_callB (fun ok => len_S ok) (by rfl) B.b_len bb_len (ca_cons (ce_var 0) ca_nil)) (ce_callB (fun ok => len_S ok) (by rfl) B.b_len bb_len (ca_cons (ce_var 1) ca_nil)) (by first | exact nomark _ | rfl | decide)) (ce_one (ce_callB (fun ok => all_S ok) (by rfl) B.b_all bb_all (ca_cons (ce_frz (cn_comp [("a", 2), ("b", 3)] (ci_zip (ce_var 0) (ce_var 1) (by rfl) B.b_zip) (fun _ _ _ _ _ => (cg_tup (cgs_cons (cg_name 2) (cgs_cons (cg_name 3) cgs_nil)))) (fun _ _ _ _ _ => cts_nil) (fun _ _ _ _ _ => (ce_callP (D__law_same.dk (hr.mono (by omega))) (by rfl) (ca_cons (ce_var 2) (ca_cons (ce_var 3) ca_nil)))))) ca_nil))))))) css_nil)
    (css_cons (cs_if (ct_cw (cw_or (ct_cop (fun ok => ne_S ok) isB_dd (ce_isi .bool (fun z => nomatch z) (ce_var 0) (by rfl) B.b_isinstance bb_isinstance (by rfl) B.b_bool bb_bool) (ce_isi .bool (fun z => nomatch z) (ce_var 1) (by rfl) B.b_isinstance bb_isinstance (by rfl) B.b_bool bb_bool) (by first | exact nomark _ | rfl | decide)) (cw_or1 (ct_cop (fun ok => ne_S ok) isB_dd (ce_cop (fun ok => is_S) (ce_var 0) ce_non (by first | exact nomark _ | rfl | decide)) (ce_cop (fun ok => is_S) (ce_var 1) ce_non (by first | exact nomark _ | rfl | decide)) (by first | exact nomark _ | rfl | decide))))) (css_one (cs_ret ce_bl)) css_nil)
    (css_one (cs_ret (ce_and (ce_cop (fun ok => eq_S ok) (ce_isi .int (fun z => nomatch z) (ce_var 0) (by rfl) B.b_isinstance bb_isinstance (by rfl) B.b_int bb_int) (ce_isi .int (fun z => nomatch z) (ce_var 1) (by rfl) B.b_isinstance bb_isinstance (by rfl) B.b_int bb_int) (by first | exact nomark _ | rfl | decide)) (ce_one (ce_cop (fun ok => eq_S ok) (ce_var 0) (ce_var 1) (by first | exact nomark _ | rfl | decide)))))))))
theorem ok__law_draw (F : Fun K "_law_draw" "_law_draw" s__law_draw f fd) (B : Bt ⟨K, cA, cF⟩ mg)  : FnOk P w K mg base (L2.CX P w) 1 f fd ["hand", "many"] (spOf ⟨K, cA, cF⟩ d__law_draw 2) :=
  fn_okX (k := 0) (ps := ["hand", "many"]) (N := ["hand", "many", "cell", "digit", "amount"]) (ms := b__law_draw) rfl F sc__law_draw (fun cdv A outer s H E hr => (css_cons (cs_if (ct_cw (cw_and (ct_cop (fun ok => eq_S ok) isB_dd (ce_ix (ce_var 0) ce_int) ce_int (by first | exact nomark _ | rfl | decide)) (cw_and1 (ct_cop (fun ok => lt_S ok) isB_ord (ce_ix (ce_var 0) ce_int) (ce_callB (fun ok => len_S ok) (by rfl) B.b_len bb_len (ca_cons (ce_ix (ce_var 0) ce_int) ca_nil)) (by first | exact nomark _ | rfl | decide))))) (css_wipe [2] (css_cons (cs_set 2 (ce_ix (ce_ix (ce_var 0) ce_int) (ce_ix (ce_var 0) ce_int)))
    (css_cons (cs_asg (ce_bop (fun ok => add_S ok.k) (ce_ix (ce_var 0) ce_int) ce_int) (cg_store (ce_var 0) ce_int))
    (css_cons (cs_asg (ce_bop (fun ok => mod_S) (ce_callTy (fun ok => int_S) (by rfl) B.b_int bb_int (ca_cons (ce_bop (fun ok => add_S ok.k) (ce_bop (fun ok => add_S ok.k) (ce_bop (fun ok => mul_S ok.k) (ce_ix (ce_var 0) ce_int) ce_int) (ce_bop (fun ok => mul_S ok.k) (ce_var 2) ce_int)) ce_int) ca_nil)) ce_int) (cg_store (ce_var 0) ce_int))
    (css_one (cs_if (ct_cop (fun ok => ge_S ok) isB_ord (ce_var 2) (ce_bop (fun ok => pow_S) ce_int ce_int) (by first | exact nomark _ | rfl | decide)) (css_one (cs_asg (ce_var 2) (cg_store (ce_var 0) ce_int))) css_nil)))))) (css_wipe [2] css_nil))
    (css_cons (cs_if (ct_cop (fun ok => gt_S ok) isB_ord (ce_ix (ce_var 0) ce_int) ce_int (by first | exact nomark _ | rfl | decide)) (css_cons (cs_set 3 (ce_bop (fun ok => mod_S) (ce_callTy (fun ok => int_S) (by rfl) B.b_int bb_int (ca_cons (ce_ix (ce_var 0) ce_int) ca_nil)) (ce_var 1)))
    (css_cons (cs_asg (ce_bop (fun ok => div_S) (ce_ix (ce_var 0) ce_int) (ce_var 1)) (cg_store (ce_var 0) ce_int))
    (css_one (cs_ret (ce_var 3))))) css_nil)
    (css_cons (cs_asg (ce_bop (fun ok => add_S ok.k) (ce_ix (ce_var 0) ce_int) ce_int) (cg_store (ce_var 0) ce_int))
    (css_cons (cs_set 4 (ce_bop (fun ok => mod_S) (ce_callTy (fun ok => int_S) (by rfl) B.b_int bb_int (ca_cons (ce_bop (fun ok => mul_S ok.k) (ce_callTy (fun ok => int_S) (by rfl) B.b_int bb_int (ca_cons (ce_bop (fun ok => add_S ok.k) (ce_ix (ce_var 0) ce_int) (ce_bop (fun ok => mul_S ok.k) ce_int (ce_ix (ce_var 0) ce_int))) ca_nil)) ce_int) ca_nil)) ce_int))
    (css_cons (cs_set 4 (ce_bop (fun ok => mod_S) (ce_callTy (fun ok => int_S) (by rfl) B.b_int bb_int (ca_cons (ce_bop (fun ok => mul_S ok.k) (ce_var 4) (ce_bop (fun ok => add_S ok.k) (ce_bop (fun ok => div_S) (ce_var 4) ce_int) ce_int)) ca_nil)) ce_int))
    (css_cons (cs_set 4 (ce_bop (fun ok => mod_S) (ce_callTy (fun ok => int_S) (by rfl) B.b_int bb_int (ca_cons (ce_bop (fun ok => mul_S ok.k) (ce_var 4) (ce_bop (fun ok => add_S ok.k) (ce_bop (fun ok => div_S) (ce_var 4) ce_int) ce_int)) ca_nil)) ce_int))
    (css_one (cs_ret (ce_bop (fun ok => mod_S) (ce_callTy (fun ok => int_S) (by rfl) B.b_int bb_int (ca_cons (ce_bop (fun ok => div_S) (ce_var 4) ce_int) ca_nil)) (ce_var 1)))))))))))
theorem ok__law_any (F : Fun K "_law_any" "_law_any" s__law_any f fd) (B : Bt ⟨K, cA, cF⟩ mg) (D__law_draw : Df P w K mg base ⟨K, cA, cF⟩ 1 "_law_draw" 2 d__law_draw) : FnOk P w K mg base (L2.CX P w) 2 f fd ["hand", "some"] (spOf ⟨K, cA, cF⟩ d__law_any 2) :=
  fn_okX (k := 1) (ps := ["hand", "some"]) (N := ["hand", "some"]) (ms := b__law_any) rfl F sc__law_any (fun cdv A outer s H E hr => (css_one (cs_ret (ce_ix (ce_var 1) (ce_call1 (D__law_draw.dk (hr.mono (by decide))) (by rfl) (ca_cons (ce_var 0) (ca_cons (ce_callB (fun ok => len_S ok) (by rfl) B.b_len bb_len (ca_cons (ce_var 1) ca_nil)) ca_nil)))))))
theorem ok__law_mixed (F : Fun K "_law_mixed" "_law_mixed" s__law_mixed f fd) (B : Bt ⟨K, cA, cF⟩ mg) (D__law_draw : Df P w K mg base ⟨K, cA, cF⟩ 1 "_law_draw" 2 d__law_draw) : FnOk P w K mg base (L2.CX P w) 2 f fd ["hand", "things"] (spOf ⟨K, cA, cF⟩ d__law_mixed 2) :=
  fn_okX (k := 1) (ps := ["hand", "things"]) (N := ["hand", "things", "pool", "found"]) (ms := b__law_mixed) rfl F sc__law_mixed (fun cdv A outer s H E hr => (css_cons (cs_par 2 3 (ca_cons (ce_loc (cn_callTy (fun ok => list_S ok) (by rfl) B.b_list bb_list (ca_cons (ce_var 1) ca_nil))) (ca_cons (ce_loc (cn_lst ca_nil)) ca_nil)))
    (css_cons (cs_while (ct_cop (fun ok => gt_S ok) isB_ord (ce_callB (fun ok => len_S ok) (by rfl) B.b_len bb_len (ca_cons (ce_var 2) ca_nil)) ce_int (by first | exact nomark _ | rfl | decide)) (css_wipe [] (css_one (cs_expr (ce_met append_W mt_append PySem.F.slot_list_append PySem.F.type_list_append (ce_var 3) (ca_cons (ce_met popAt_W mt_popAt PySem.F.slot_list_pop PySem.F.type_list_pop (ce_var 2) (ca_cons (ce_call1 (D__law_draw.dk (hr.mono (by decide))) (by rfl) (ca_cons (ce_var 0) (ca_cons (ce_callB (fun ok => len_S ok) (by rfl) B.b_len bb_len (ca_cons (ce_var 2) ca_nil)) ca_nil))) ca_nil)) ca_nil))))))
    (css_one (cs_ret (ce_move 3))))))
theorem ok__law_finds (F : Fun K "_law_finds" "_law_finds" s__law_finds f fd) (B : Bt ⟨K, cA, cF⟩ mg) (D__law_draw : Df P w K mg base ⟨K, cA, cF⟩ 1 "_law_draw" 2 d__law_draw) (D__law_any : Df P w K mg base ⟨K, cA, cF⟩ 2 "_law_any" 2 d__law_any) (D__law_mixed : Df P w K mg base ⟨K, cA, cF⟩ 2 "_law_mixed" 2 d__law_mixed) : FnOk P w K mg base (L2.CX P w) 3 f fd ["hand", "most"] (spOf ⟨K, cA, cF⟩ d__law_finds 2) :=
  fn_okX (k := 2) (ps := ["hand", "most"]) (N := ["hand", "most", "wide", "many", "found", "find", "ware", "spans", "low", "order", "at", "one"]) (ms := b__law_finds) rfl F sc__law_finds (fun cdv A outer s H E hr => (css_cons (cs_asg (ce_tup (ca_cons (ce_bop (fun ok => add_S ok.k) ce_int (ce_call1 (D__law_any.dk (hr.mono (by decide))) (by rfl) (ca_cons (ce_var 0) (ca_cons (ce_frz (cn_lst (ca_cons ce_int (ca_cons ce_int (ca_cons ce_int (ca_cons ce_int (ca_cons ce_int (ca_cons ce_int ca_nil)))))))) ca_nil)))) (ca_cons (ce_callB (fun ok => max2_S ok) (by rfl) B.b_max bb_max (ca_cons ce_int (ca_cons (ce_bop (fun ok => sub_S) (ce_var 1) (ce_call1 (D__law_any.dk (hr.mono (by decide))) (by rfl) (ca_cons (ce_var 0) (ca_cons (ce_frz (cn_lst (ca_cons ce_int (ca_cons ce_int (ca_cons ce_int (ca_cons ce_int (ca_cons ce_int (ca_cons ce_int (ca_cons ce_int ca_nil))))))))) ca_nil)))) ca_nil))) (ca_cons (ce_loc (cn_lst ca_nil)) ca_nil)))) (cg_tup (cgs_cons (cg_name 2) (cgs_cons (cg_name 3) (cgs_cons (cg_name 4) cgs_nil)))))
    (css_cons (cs_if (ct_cop (fun ok => eq_S ok) isB_dd (ce_call1 (D__law_draw.dk (hr.mono (by decide))) (by rfl) (ca_cons (ce_var 0) (ca_cons ce_int ca_nil))) ce_int (by first | exact nomark _ | rfl | decide)) (css_cons (cs_for (ci_range1 (ce_var 3) (by rfl) B.b_range) (cg_name 5) (css_wipe [5] (css_one (cs_expr (ce_met append_W mt_append PySem.F.slot_list_append PySem.F.type_list_append (ce_var 4) (ca_cons (ce_callTy (fun ok => tuple_S ok) (by rfl) B.b_tuple bb_tuple (ca_cons (ce_frz (cn_comp [("ware", 6)] (ci_range1 (ce_var 2) (by rfl) B.b_range) (fun _ _ _ _ _ => (cg_name 6)) (fun _ _ _ _ _ => cts_one (ct_cop (fun ok => eq_S ok) isB_dd (ce_call1 (D__law_draw.dk (hr.mono (by decide))) (by rfl) (ca_cons (ce_var 0) (ca_cons ce_int ca_nil))) ce_int (by first | exact nomark _ | rfl | decide))) (fun _ _ _ _ _ => (ce_var 6)))) ca_nil)) ca_nil))))))
    (css_one (cs_ret (ce_tup (ca_cons (ce_var 2) (ca_cons (ce_callTy (fun ok => tuple_S ok) (by rfl) B.b_tuple bb_tuple (ca_cons (ce_var 4) ca_nil)) ca_nil)))))) css_nil)
    (css_cons (cs_set 7 (ce_loc (cn_lst ca_nil)))
    (css_cons (cs_for (ci_range1 (ce_var 2) (by rfl) B.b_range) (cg_name 6) (css_wipe [6, 8] (css_cons (cs_set 8 (ce_call1 (D__law_draw.dk (hr.mono (by decide))) (by rfl) (ca_cons (ce_var 0) (ca_cons (ce_var 3) ca_nil))))
    (css_one (cs_expr (ce_met append_W mt_append PySem.F.slot_list_append PySem.F.type_list_append (ce_var 7) (ca_cons (ce_tup (ca_cons (ce_var 8) (ca_cons (ce_bop (fun ok => add_S ok.k) (ce_var 8) (ce_call1 (D__law_draw.dk (hr.mono (by decide))) (by rfl) (ca_cons (ce_var 0) (ca_cons ce_int ca_nil)))) ca_nil))) ca_nil)))))))
    (css_cons (cs_set 9 (ce_call1 (D__law_mixed.dk (hr.mono (by decide))) (by rfl) (ca_cons (ce_var 0) (ca_cons (ce_frz (cn_list1 (ce_var 3) (by rfl) B.b_list (by rfl) B.b_range)) ca_nil))))
    (css_cons (cs_pre [5] (cs_for (ci_range1 (ce_var 3) (by rfl) B.b_range) (cg_name 5) (css_wipe [5] (css_one (cs_expr (ce_met append_W mt_append PySem.F.slot_list_append PySem.F.type_list_append (ce_var 4) (ca_cons (ce_callTy (fun ok => tuple_S ok) (by rfl) B.b_tuple bb_tuple (ca_cons (ce_frz (cn_comp [("ware", 6)] (ci_range1 (ce_var 2) (by rfl) B.b_range) (fun _ _ _ _ _ => (cg_name 6)) (fun _ _ _ _ _ => cts_one (ct_chain (fun ok => OpS.r (le_S ok)) (fun ok => OpS.r (le_S ok)) OpS.op OpS.op isB_ord isB_ord (ce_ix (ce_ix (ce_var 7) (ce_var 6)) ce_int) (ce_ix (ce_var 9) (ce_var 5)) (ce_ix (ce_ix (ce_var 7) (ce_var 6)) ce_int))) (fun _ _ _ _ _ => (ce_var 6)))) ca_nil)) ca_nil)))))))
    (css_cons (cs_if (ct_cop (fun ok => eq_S ok) isB_dd (ce_call1 (D__law_draw.dk (hr.mono (by decide))) (by rfl) (ca_cons (ce_var 0) (ca_cons ce_int ca_nil))) ce_int (by first | exact nomark _ | rfl | decide)) (css_wipe [6, 10] (css_cons (cs_asg (ce_tup (ca_cons (ce_call1 (D__law_draw.dk (hr.mono (by decide))) (by rfl) (ca_cons (ce_var 0) (ca_cons (ce_var 3) ca_nil))) (ca_cons (ce_call1 (D__law_draw.dk (hr.mono (by decide))) (by rfl) (ca_cons (ce_var 0) (ca_cons (ce_var 2) ca_nil))) ca_nil))) (cg_tup (cgs_cons (cg_name 10) (cgs_cons (cg_name 6) cgs_nil))))
    (css_one (cs_asg (ce_callTy (fun ok => tuple_S ok) (by rfl) B.b_tuple bb_tuple (ca_cons (ce_frz (cn_comp [("one", 11)] (ci_range1 (ce_var 2) (by rfl) B.b_range) (fun _ _ _ _ _ => (cg_name 11)) (fun _ _ _ _ _ => cts_one (ct_cop (fun ok => ne_S ok) isB_dd (ce_cop (fun ok => in_S ok) (ce_var 11) (ce_ix (ce_var 4) (ce_var 10)) (by first | exact nomark _ | rfl | decide)) (ce_cop (fun ok => eq_S ok) (ce_var 11) (ce_var 6) (by first | exact nomark _ | rfl | decide)) (by first | exact nomark _ | rfl | decide))) (fun _ _ _ _ _ => (ce_var 11)))) ca_nil)) (cg_store (ce_var 4) (ce_var 10)))))) (css_wipe [6, 10] css_nil))
    (css_one (cs_ret (ce_tup (ca_cons (ce_var 2) (ca_cons (ce_callTy (fun ok => tuple_S ok) (by rfl) B.b_tuple bb_tuple (ca_cons (ce_var 4) ca_nil)) ca_nil)))))))))))))
theorem ok__law_told_pairs (F : Fun K "_law_told_pairs" "_law_told_pairs" s__law_told_pairs f fd) (B : Bt ⟨K, cA, cF⟩ mg) (D__law_draw : Df P w K mg base ⟨K, cA, cF⟩ 1 "_law_draw" 2 d__law_draw) (D__law_any : Df P w K mg base ⟨K, cA, cF⟩ 2 "_law_any" 2 d__law_any) (D__law_mixed : Df P w K mg base ⟨K, cA, cF⟩ 2 "_law_mixed" 2 d__law_mixed) : FnOk P w K mg base (L2.CX P w) 3 f fd ["hand", "many"] (spOf ⟨K, cA, cF⟩ d__law_told_pairs 2) :=
  fn_okX (k := 2) (ps := ["hand", "many"]) (N := ["hand", "many", "order", "some", "lap", "a", "b"]) (ms := b__law_told_pairs) rfl F sc__law_told_pairs (fun cdv A outer s H E hr => (css_cons (cs_par 2 3 (ca_cons (ce_call1 (D__law_mixed.dk (hr.mono (by decide))) (by rfl) (ca_cons (ce_var 0) (ca_cons (ce_frz (cn_list1 (ce_var 1) (by rfl) B.b_list (by rfl) B.b_range)) ca_nil))) (ca_cons (ce_loc (cn_lst ca_nil)) ca_nil)))
    (css_cons (cs_for (ci_range1 (ce_call1 (D__law_any.dk (hr.mono (by decide))) (by rfl) (ca_cons (ce_var 0) (ca_cons (ce_frz (cn_lst (ca_cons ce_int (ca_cons ce_int (ca_cons ce_int (ca_cons ce_int (ca_cons ce_int ca_nil))))))) ca_nil))) (by rfl) B.b_range) (cg_name 4) (css_wipe [4, 5, 6] (css_cons (cs_par 5 6 (ca_cons (ce_call1 (D__law_draw.dk (hr.mono (by decide))) (by rfl) (ca_cons (ce_var 0) (ca_cons (ce_var 1) ca_nil))) (ca_cons (ce_call1 (D__law_draw.dk (hr.mono (by decide))) (by rfl) (ca_cons (ce_var 0) (ca_cons (ce_var 1) ca_nil))) ca_nil)))
    (css_one (cs_if (ct_cw (cw_and (ct_cop (fun ok => ne_S ok) isB_dd (ce_var 5) (ce_var 6) (by first | exact nomark _ | rfl | decide)) (cw_and1 (ct_cw (cw_or (ct_cop (fun ok => lt_S ok) isB_ord (ce_var 5) (ce_var 6) (by first | exact nomark _ | rfl | decide)) (cw_or1 (ct_cop (fun ok => eq_S ok) isB_dd (ce_call1 (D__law_draw.dk (hr.mono (by decide))) (by rfl) (ca_cons (ce_var 0) (ca_cons ce_int ca_nil))) ce_int (by first | exact nomark _ | rfl | decide)))))))) (css_one (cs_expr (ce_met append_W mt_append PySem.F.slot_list_append PySem.F.type_list_append (ce_var 3) (ca_cons (ce_tup (ca_cons (ce_ix (ce_var 2) (ce_var 5)) (ca_cons (ce_ix (ce_var 2) (ce_var 6)) ca_nil))) ca_nil)))) css_nil)))))
    (css_one (cs_ret (ce_callTy (fun ok => tuple_S ok) (by rfl) B.b_tuple bb_tuple (ca_cons (ce_frz (cn_sset (by rfl) B.b_sorted (by rfl) B.b_set (ce_var 3))) ca_nil)))))))
theorem ok__law_orders (F : Fun K "_law_orders" "_law_orders" s__law_orders f fd) (B : Bt ⟨K, cA, cF⟩ mg)  : FnOk P w K mg base (L2.CX P w) 1 f fd ["many"] (spOf ⟨K, cA, cF⟩ d__law_orders 1) :=
  fn_okX (k := 0) (ps := ["many"]) (N := ["many", "found", "lap", "longer", "row", "one"]) (ms := b__law_orders) rfl F sc__law_orders (fun cdv A outer s H E hr => (css_cons (cs_set 1 (ce_frz (cn_lst (ca_cons (ce_tup ca_nil) ca_nil))))
    (css_cons (cs_for (ci_range1 (ce_var 0) (by rfl) B.b_range) (cg_name 2) (css_scope (css_wipe [2, 3, 4] (css_cons (cs_set 3 (ce_loc (cn_lst ca_nil)))
    (css_cons (cs_for (ci_seq (ce_var 1)) (cg_name 4) (css_wipe [4] (css_one (cs_expr (ce_met extend_W mt_extend PySem.F.slot_list_extend PySem.F.type_list_extend (ce_var 3) (ca_cons (ce_frz (cn_comp [("one", 5)] (ci_range1 (ce_var 0) (by rfl) B.b_range) (fun _ _ _ _ _ => (cg_name 5)) (fun _ _ _ _ _ => cts_one (ct_cop (fun ok => notIn_S ok) isB_inn (ce_var 5) (ce_var 4) (by first | exact nomark _ | rfl | decide))) (fun _ _ _ _ _ => (ce_bop (fun ok => add_S ok.k) (ce_var 4) (ce_tup (ca_cons (ce_var 5) ca_nil)))))) ca_nil))))))
    (css_one (cs_set 1 (ce_move 3))))))))
    (css_one (cs_ret (ce_var 1))))))
theorem ok__law_together (F : Fun K "_law_together" "_law_together" s__law_together f fd) (B : Bt ⟨K, cA, cF⟩ mg)  : FnOk P w K mg base (L2.CX P w) 1 f fd ["wide", "finds", "order"] (spOf ⟨K, cA, cF⟩ d__law_together 3) :=
  fn_okX (k := 0) (ps := ["wide", "finds", "order"]) (N := ["wide", "finds", "order", "ware", "places", "at", "find"]) (ms := b__law_together) rfl F sc__law_together (fun cdv A outer s H E hr => (css_cons (cs_for (ci_range1 (ce_var 0) (by rfl) B.b_range) (cg_name 3) (css_wipe [3, 4] (css_cons (cs_setLc kept_frz 4 [("at", 5), ("find", 6)] (ci_enumA (ce_var 2) (by rfl) B.b_enumerate) (fun _ _ _ _ _ => (cg_tup (cgs_cons (cg_name 5) (cgs_cons (cg_name 6) cgs_nil)))) (fun _ _ _ _ _ => cts_one (ct_cop (fun ok => in_S ok) isB_inn (ce_var 3) (ce_ix (ce_var 1) (ce_var 6)) (by first | exact nomark _ | rfl | decide))) (fun _ _ _ _ _ => (ce_var 5)))
    (css_one (cs_if (ct_cw (cw_and (ct_cop (fun ok => gt_S ok) isB_ord (ce_callB (fun ok => len_S ok) (by rfl) B.b_len bb_len (ca_cons (ce_var 4) ca_nil)) ce_int (by first | exact nomark _ | rfl | decide)) (cw_and1 (ct_cop (fun ok => ne_S ok) isB_dd (ce_bop (fun ok => add_S ok.k) (ce_bop (fun ok => sub_S) (ce_ix (ce_var 4) (ce_neg ce_int)) (ce_ix (ce_var 4) ce_int)) ce_int) (ce_callB (fun ok => len_S ok) (by rfl) B.b_len bb_len (ca_cons (ce_var 4) ca_nil)) (by first | exact nomark _ | rfl | decide))))) (css_one (cs_ret ce_bl)) css_nil)))))
    (css_one (cs_ret ce_bl))))
theorem ok__law_keeps (F : Fun K "_law_keeps" "_law_keeps" s__law_keeps f fd) (B : Bt ⟨K, cA, cF⟩ mg)  : FnOk P w K mg base (L2.CX P w) 1 f fd ["order", "pairs"] (spOf ⟨K, cA, cF⟩ d__law_keeps 2) :=
  fn_okX (k := 0) (ps := ["order", "pairs"]) (N := ["order", "pairs", "a", "b"]) (ms := b__law_keeps) rfl F sc__law_keeps (fun cdv A outer s H E hr => (css_one (cs_ret (ce_callB (fun ok => all_S ok) (by rfl) B.b_all bb_all (ca_cons (ce_frz (cn_comp [("a", 2), ("b", 3)] (ci_seq (ce_var 1)) (fun _ _ _ _ _ => (cg_tup (cgs_cons (cg_name 2) (cgs_cons (cg_name 3) cgs_nil)))) (fun _ _ _ _ _ => cts_nil) (fun _ _ _ _ _ => (ce_cop (fun ok => lt_S ok) (ce_idxT (ce_var 0) (ce_var 2)) (ce_idxT (ce_var 0) (ce_var 3)) (by first | exact nomark _ | rfl | decide))))) ca_nil)))))
theorem ok__law_age_orders (F : Fun K "_law_age_orders" "_law_age_orders" s__law_age_orders f fd) (B : Bt ⟨K, cA, cF⟩ mg) (D__law_orders : Df P w K mg base ⟨K, cA, cF⟩ 1 "_law_orders" 1 d__law_orders) (D__law_together : Df P w K mg base ⟨K, cA, cF⟩ 1 "_law_together" 3 d__law_together) (D__law_keeps : Df P w K mg base ⟨K, cA, cF⟩ 1 "_law_keeps" 2 d__law_keeps) : FnOk P w K mg base (L2.CX P w) 2 f fd ["wide", "finds", "pairs"] (spOf ⟨K, cA, cF⟩ d__law_age_orders 3) :=
  fn_okX (k := 1) (ps := ["wide", "finds", "pairs"]) (N := ["wide", "finds", "pairs", "order"]) (ms := b__law_age_orders) rfl F sc__law_age_orders (fun cdv A outer s H E hr => (css_one (cs_ret (ce_frz (cn_comp [("order", 3)] (ci_seq (ce_callP (D__law_orders.dk (hr.mono (by decide))) (by rfl) (ca_cons (ce_callB (fun ok => len_S ok) (by rfl) B.b_len bb_len (ca_cons (ce_var 1) ca_nil)) ca_nil))) (fun _ _ _ _ _ => (cg_name 3)) (fun _ _ _ _ _ => cts_one (ct_cw (cw_and (ct_of (ce_callP (D__law_keeps.dk (hr.mono (by decide))) (by rfl) (ca_cons (ce_var 3) (ca_cons (ce_var 2) ca_nil)))) (cw_and1 (ct_of (ce_callP (D__law_together.dk (hr.mono (by decide))) (by rfl) (ca_cons (ce_var 0) (ca_cons (ce_var 1) (ca_cons (ce_var 3) ca_nil))))))))) (fun _ _ _ _ _ => (ce_var 3)))))))
theorem ok__law_sure (F : Fun K "_law_sure" "_law_sure" s__law_sure f fd) (B : Bt ⟨K, cA, cF⟩ mg)  : FnOk P w K mg base (L2.CX P w) 1 f fd ["many", "orders"] (spOf ⟨K, cA, cF⟩ d__law_sure 2) :=
  fn_okX (k := 0) (ps := ["many", "orders"]) (N := ["many", "orders", "found", "a", "b", "order"]) (ms := b__law_sure) rfl F sc__law_sure (fun cdv A outer s H E hr => (css_cons (cs_set 2 (ce_loc (cn_lst ca_nil)))
    (css_cons (cs_for (ci_range1 (ce_var 0) (by rfl) B.b_range) (cg_name 3) (css_wipe [3, 4] (css_one (cs_for (ci_range1 (ce_var 0) (by rfl) B.b_range) (cg_name 4) (css_wipe [4] (css_one (cs_if (ct_cw (cw_and (ct_cop (fun ok => ne_S ok) isB_dd (ce_var 3) (ce_var 4) (by first | exact nomark _ | rfl | decide)) (cw_and1 (ct_of (ce_callB (fun ok => all_S ok) (by rfl) B.b_all bb_all (ca_cons (ce_frz (cn_comp [("order", 5)] (ci_seq (ce_var 1)) (fun _ _ _ _ _ => (cg_name 5)) (fun _ _ _ _ _ => cts_nil) (fun _ _ _ _ _ => (ce_cop (fun ok => lt_S ok) (ce_idxT (ce_var 5) (ce_var 3)) (ce_idxT (ce_var 5) (ce_var 4)) (by first | exact nomark _ | rfl | decide))))) ca_nil)))))) (css_one (cs_expr (ce_met append_W mt_append PySem.F.slot_list_append PySem.F.type_list_append (ce_var 2) (ca_cons (ce_tup (ca_cons (ce_var 3) (ca_cons (ce_var 4) ca_nil))) ca_nil)))) css_nil)))))))
    (css_one (cs_ret (ce_callTy (fun ok => tuple_S ok) (by rfl) B.b_tuple bb_tuple (ca_cons (ce_var 2) ca_nil)))))))
theorem ok__law_is_right (F : Fun K "_law_is_right" "_law_is_right" s__law_is_right f fd) (B : Bt ⟨K, cA, cF⟩ mg) (D_age_orders : Df P w K mg base ⟨K, cA, cF⟩ 6 "age_orders" 3 d_age_orders) (D_surely_ahead : Df P w K mg base ⟨K, cA, cF⟩ 6 "surely_ahead" 3 d_surely_ahead) (D__law_same : Df P w K mg base ⟨K, cA, cF⟩ 21 "_law_same" 2 d__law_same) (D__law_draw : Df P w K mg base ⟨K, cA, cF⟩ 1 "_law_draw" 2 d__law_draw) (D__law_age_orders : Df P w K mg base ⟨K, cA, cF⟩ 2 "_law_age_orders" 3 d__law_age_orders) (D__law_sure : Df P w K mg base ⟨K, cA, cF⟩ 1 "_law_sure" 2 d__law_sure) : FnOk P w K mg base (L2.CX P w) 22 f fd ["hand", "wide", "finds", "pairs"] (spOf ⟨K, cA, cF⟩ d__law_is_right 4) :=
  fn_okX (k := 21) (ps := ["hand", "wide", "finds", "pairs"]) (N := ["hand", "wide", "finds", "pairs", "many", "own", "sure_ones", "back", "a", "b", "order", "one", "other", "more"]) (ms := b__law_is_right) rfl F sc__law_is_right (fun cdv A outer s H E hr => (css_cons (cs_par 4 5 (ca_cons (ce_callB (fun ok => len_S ok) (by rfl) B.b_len bb_len (ca_cons (ce_var 2) ca_nil)) (ca_cons (ce_callP (D__law_age_orders.dk (hr.mono (by decide))) (by rfl) (ca_cons (ce_var 1) (ca_cons (ce_var 2) (ca_cons (ce_var 3) ca_nil)))) ca_nil)))
    (css_cons (cs_set 6 (ce_callP (D__law_sure.dk (hr.mono (by decide))) (by rfl) (ca_cons (ce_var 4) (ca_cons (ce_var 5) ca_nil))))
    (css_cons (cs_if (ct_not (ct_of (ce_callP (D__law_same.dk (hr.mono (by decide))) (by rfl) (ca_cons (ce_frz (cn_lst (ca_cons (ce_callP (D_age_orders.dk (hr.mono (by decide))) (by rfl) (ca_cons (ce_var 1) (ca_cons (ce_var 2) (ca_cons (ce_var 3) ca_nil)))) (ca_cons (ce_callP (D_surely_ahead.dk (hr.mono (by decide))) (by rfl) (ca_cons (ce_var 1) (ca_cons (ce_var 2) (ca_cons (ce_var 3) ca_nil)))) ca_nil)))) (ca_cons (ce_frz (cn_lst (ca_cons (ce_callTy (fun ok => tuple_S ok) (by rfl) B.b_tuple bb_tuple (ca_cons (ce_var 5) ca_nil)) (ca_cons (ce_var 6) ca_nil)))) ca_nil))))) (css_one (cs_ret ce_bl)) css_nil)
    (css_cons (cs_set 7 (ce_callTy (fun ok => tuple_S ok) (by rfl) B.b_tuple bb_tuple (ca_cons (ce_frz (cn_callB (fun ok => sorted_S ok) (by rfl) B.b_sorted bb_sorted (ca_cons (ce_frz (cn_comp [("a", 8), ("b", 9)] (ci_seq (ce_var 3)) (fun _ _ _ _ _ => (cg_tup (cgs_cons (cg_name 8) (cgs_cons (cg_name 9) cgs_nil)))) (fun _ _ _ _ _ => cts_nil) (fun _ _ _ _ _ => (ce_tup (ca_cons (ce_var 9) (ca_cons (ce_var 8) ca_nil)))))) ca_nil))) ca_nil)))
    (css_cons (cs_if (ct_cop (fun ok => ne_S ok) isB_dd (ce_callP (D_age_orders.dk (hr.mono (by decide))) (by rfl) (ca_cons (ce_var 1) (ca_cons (ce_var 2) (ca_cons (ce_var 7) ca_nil)))) (ce_callTy (fun ok => tuple_S ok) (by rfl) B.b_tuple bb_tuple (ca_cons (ce_frz (cn_callB (fun ok => sorted_S ok) (by rfl) B.b_sorted bb_sorted (ca_cons (ce_frz (cn_comp [("order", 10)] (ci_seq (ce_var 5)) (fun _ _ _ _ _ => (cg_name 10)) (fun _ _ _ _ _ => cts_nil) (fun _ _ _ _ _ => (ce_revA (ce_var 10))))) ca_nil))) ca_nil)) (by first | exact nomark _ | rfl | decide)) (css_one (cs_ret ce_bl)) css_nil)
    (css_cons (cs_if (ct_cw (cw_and (ct_cop (fun ok => gt_S ok) isB_ord (ce_callB (fun ok => len_S ok) (by rfl) B.b_len bb_len (ca_cons (ce_var 5) ca_nil)) ce_int (by first | exact nomark _ | rfl | decide)) (cw_and1 (ct_cop (fun ok => ne_S ok) isB_dd (ce_callP (D_age_orders.dk (hr.mono (by decide))) (by rfl) (ca_cons (ce_var 1) (ca_cons (ce_var 2) (ca_cons (ce_var 6) ca_nil)))) (ce_callTy (fun ok => tuple_S ok) (by rfl) B.b_tuple bb_tuple (ca_cons (ce_var 5) ca_nil)) (by first | exact nomark _ | rfl | decide))))) (css_one (cs_ret ce_bl)) css_nil)
    (css_cons (cs_asg (ce_tup (ca_cons (ce_call1 (D__law_draw.dk (hr.mono (by decide))) (by rfl) (ca_cons (ce_var 0) (ca_cons (ce_var 4) ca_nil))) (ca_cons (ce_call1 (D__law_draw.dk (hr.mono (by decide))) (by rfl) (ca_cons (ce_var 0) (ca_cons (ce_var 4) ca_nil))) ca_nil))) (cg_tup (cgs_cons (cg_name 11) (cgs_cons (cg_name 12) cgs_nil))))
    (css_cons (cs_set 13 (ce_callTy (fun ok => tuple_S ok) (by rfl) B.b_tuple bb_tuple (ca_cons (ce_frz (cn_sset (by rfl) B.b_sorted (by rfl) B.b_set (ce_bop (fun ok => add_S ok.k) (ce_var 3) (ce_if (ct_cop (fun ok => ne_S ok) isB_dd (ce_var 11) (ce_var 12) (by first | exact nomark _ | rfl | decide)) (ce_tup (ca_cons (ce_tup (ca_cons (ce_var 11) (ca_cons (ce_var 12) ca_nil))) ca_nil)) (ce_tup ca_nil))))) ca_nil)))
    (css_one (cs_ret (ce_cop (fun ok => eq_S ok) (ce_callP (D_age_orders.dk (hr.mono (by decide))) (by rfl) (ca_cons (ce_var 1) (ca_cons (ce_var 2) (ca_cons (ce_var 13) ca_nil)))) (ce_callTy (fun ok => tuple_S ok) (by rfl) B.b_tuple bb_tuple (ca_cons (ce_frz (cn_comp [("order", 10)] (ci_seq (ce_var 5)) (fun _ _ _ _ _ => (cg_name 10)) (fun _ _ _ _ _ => cts_one (ct_cw (cw_or (ct_cop (fun ok => eq_S ok) isB_dd (ce_var 11) (ce_var 12) (by first | exact nomark _ | rfl | decide)) (cw_or1 (ct_cop (fun ok => lt_S ok) isB_ord (ce_idxT (ce_var 10) (ce_var 11)) (ce_idxT (ce_var 10) (ce_var 12)) (by first | exact nomark _ | rfl | decide)))))) (fun _ _ _ _ _ => (ce_var 10)))) ca_nil)) (by first | exact nomark _ | rfl | decide)))))))))))))
theorem ok_law (F : Fun K "law" "law" s_law f fd) (B : Bt ⟨K, cA, cF⟩ mg) (D_age_orders : Df P w K mg base ⟨K, cA, cF⟩ 6 "age_orders" 3 d_age_orders) (D_surely_ahead : Df P w K mg base ⟨K, cA, cF⟩ 6 "surely_ahead" 3 d_surely_ahead) (D__law_hand : Df P w K mg base ⟨K, cA, cF⟩ 1 "_law_hand" 1 d__law_hand) (D__law_same : Df P w K mg base ⟨K, cA, cF⟩ 21 "_law_same" 2 d__law_same) (D__law_finds : Df P w K mg base ⟨K, cA, cF⟩ 3 "_law_finds" 2 d__law_finds) (D__law_told_pairs : Df P w K mg base ⟨K, cA, cF⟩ 3 "_law_told_pairs" 2 d__law_told_pairs) (D__law_is_right : Df P w K mg base ⟨K, cA, cF⟩ 22 "_law_is_right" 4 d__law_is_right) : FnOk P w K mg base (L2.CX P w) 23 f fd ["script"] (spOf ⟨K, cA, cF⟩ d_law 1) :=
  fn_okX (k := 22) (ps := ["script"]) (N := ["script", "hand", "finds", "lap", "wide"]) (ms := b_law) rfl F sc_law (fun cdv A outer s H E hr => (css_cons (cs_set 1 (ce_loc (cn_callNP (D__law_hand.dk (hr.mono (by decide))) (by rfl) (ca_cons (ce_var 0) ca_nil))))
    (css_cons (cs_set 2 (ce_tup (ca_cons (ce_tup (ca_cons ce_int ca_nil)) (ca_cons (ce_tup (ca_cons ce_int (ca_cons ce_int ca_nil))) (ca_cons (ce_tup (ca_cons ce_int ca_nil)) ca_nil)))))
    (css_cons (cs_if (ct_not (ct_of (ce_callP (D__law_same.dk (hr.mono (by decide))) (by rfl) (ca_cons (ce_frz (cn_lst (ca_cons (ce_callP (D_age_orders.dk (hr.mono (by decide))) (by rfl) (ca_cons ce_int (ca_cons (ce_var 2) (ca_cons (ce_tup ca_nil) ca_nil)))) (ca_cons (ce_callP (D_surely_ahead.dk (hr.mono (by decide))) (by rfl) (ca_cons ce_int (ca_cons (ce_var 2) (ca_cons (ce_tup (ca_cons (ce_tup (ca_cons ce_int (ca_cons ce_int ca_nil))) ca_nil)) ca_nil)))) ca_nil)))) (ca_cons (ce_frz (cn_lst (ca_cons (ce_tup (ca_cons (ce_tup (ca_cons ce_int (ca_cons ce_int (ca_cons ce_int ca_nil)))) (ca_cons (ce_tup (ca_cons ce_int (ca_cons ce_int (ca_cons ce_int ca_nil)))) ca_nil))) (ca_cons (ce_tup (ca_cons (ce_tup (ca_cons ce_int (ca_cons ce_int ca_nil))) (ca_cons (ce_tup (ca_cons ce_int (ca_cons ce_int ca_nil))) (ca_cons (ce_tup (ca_cons ce_int (ca_cons ce_int ca_nil))) ca_nil)))) ca_nil)))) ca_nil))))) (css_one (cs_ret ce_bl)) css_nil)
    (css_cons (cs_if (ct_not (ct_of (ce_callP (D__law_same.dk (hr.mono (by decide))) (by rfl) (ca_cons (ce_frz (cn_lst (ca_cons (ce_callP (D_age_orders.dk (hr.mono (by decide))) (by rfl) (ca_cons ce_int (ca_cons (ce_tup (ca_cons (ce_tup (ca_cons ce_int ca_nil)) (ca_cons (ce_tup ca_nil) (ca_cons (ce_tup (ca_cons ce_int ca_nil)) ca_nil)))) (ca_cons (ce_tup (ca_cons (ce_tup (ca_cons ce_int (ca_cons ce_int ca_nil))) ca_nil)) ca_nil)))) (ca_cons (ce_callP (D_surely_ahead.dk (hr.mono (by decide))) (by rfl) (ca_cons ce_int (ca_cons (ce_tup (ca_cons (ce_tup ca_nil) (ca_cons (ce_tup ca_nil) ca_nil))) (ca_cons (ce_tup (ca_cons (ce_tup (ca_cons ce_int (ca_cons ce_int ca_nil))) (ca_cons (ce_tup (ca_cons ce_int (ca_cons ce_int ca_nil))) ca_nil))) ca_nil)))) ca_nil)))) (ca_cons (ce_frz (cn_lst (ca_cons (ce_tup (ca_cons (ce_tup (ca_cons ce_int (ca_cons ce_int (ca_cons ce_int ca_nil)))) (ca_cons (ce_tup (ca_cons ce_int (ca_cons ce_int (ca_cons ce_int ca_nil)))) ca_nil))) (ca_cons (ce_tup (ca_cons (ce_tup (ca_cons ce_int (ca_cons ce_int ca_nil))) (ca_cons (ce_tup (ca_cons ce_int (ca_cons ce_int ca_nil))) ca_nil))) ca_nil)))) ca_nil))))) (css_one (cs_ret ce_bl)) css_nil)
    (css_cons (cs_pre [2] (cs_for (ci_range1 ce_int (by rfl) B.b_range) (cg_name 3) (css_wipe [2, 3, 4] (css_cons (cs_asg (ce_call1 (D__law_finds.dk (hr.mono (by decide))) (by rfl) (ca_cons (ce_var 1) (ca_cons ce_int ca_nil))) (cg_tup (cgs_cons (cg_name 4) (cgs_cons (cg_name 2) cgs_nil))))
    (css_one (cs_if (ct_not (ct_of (ce_call1 (D__law_is_right.dk (hr.mono (by decide))) (by rfl) (ca_cons (ce_var 1) (ca_cons (ce_var 4) (ca_cons (ce_var 2) (ca_cons (ce_call1 (D__law_told_pairs.dk (hr.mono (by decide))) (by rfl) (ca_cons (ce_var 1) (ca_cons (ce_callB (fun ok => len_S ok) (by rfl) B.b_len bb_len (ca_cons (ce_var 2) ca_nil)) ca_nil))) ca_nil))))))) (css_one (cs_ret ce_bl)) css_nil))))))
    (css_one (cs_ret ce_bl))))))))
end
theorem all_mk {l : PySem.W.OpenLaw} {w : World} {K : PySem.W.Frag} {h : Heap} {mg : Str → Option Value} {fa : Addr} (X : K.In h) (G : h.Ns mainGlobals mg) (hfa : mg "law" = some (.ref fa))
    {f_0 : Addr} {od0 an0 : Option Addr} {sl0 : Array (Option Value)} {oc0 kV0 dc0 pm0 cd0 ct0 : Value} {f_1 : Addr} {od1 an1 : Option Addr} {sl1 : Array (Option Value)} {oc1 kV1 dc1 pm1 cd1 ct1 : Value} {f_2 : Addr} {od2 an2 : Option Addr} {sl2 : Array (Option Value)} {oc2 kV2 dc2 pm2 cd2 ct2 : Value} {f_3 : Addr} {od3 an3 : Option Addr} {sl3 : Array (Option Value)} {oc3 kV3 dc3 pm3 cd3 ct3 : Value} {f_4 : Addr} {od4 an4 : Option Addr} {sl4 : Array (Option Value)} {oc4 kV4 dc4 pm4 cd4 ct4 : Value} {f_5 : Addr} {od5 an5 : Option Addr} {sl5 : Array (Option Value)} {oc5 kV5 dc5 pm5 cd5 ct5 : Value} {f_6 : Addr} {od6 an6 : Option Addr} {sl6 : Array (Option Value)} {oc6 kV6 dc6 pm6 cd6 ct6 : Value} {f_7 : Addr} {od7 an7 : Option Addr} {sl7 : Array (Option Value)} {oc7 kV7 dc7 pm7 cd7 ct7 : Value} {f_8 : Addr} {od8 an8 : Option Addr} {sl8 : Array (Option Value)} {oc8 kV8 dc8 pm8 cd8 ct8 : Value} {f_9 : Addr} {od9 an9 : Option Addr} {sl9 : Array (Option Value)} {oc9 kV9 dc9 pm9 cd9 ct9 : Value} {f_10 : Addr} {od10 an10 : Option Addr} {sl10 : Array (Option Value)} {oc10 kV10 dc10 pm10 cd10 ct10 : Value} {f_11 : Addr} {od11 an11 : Option Addr} {sl11 : Array (Option Value)} {oc11 kV11 dc11 pm11 cd11 ct11 : Value} {f_12 : Addr} {od12 an12 : Option Addr} {sl12 : Array (Option Value)} {oc12 kV12 dc12 pm12 cd12 ct12 : Value} {f_13 : Addr} {od13 an13 : Option Addr} {sl13 : Array (Option Value)} {oc13 kV13 dc13 pm13 cd13 ct13 : Value} {f_14 : Addr} {od14 an14 : Option Addr} {sl14 : Array (Option Value)} {oc14 kV14 dc14 pm14 cd14 ct14 : Value} {f_15 : Addr} {od15 an15 : Option Addr} {sl15 : Array (Option Value)} {oc15 kV15 dc15 pm15 cd15 ct15 : Value} {f_16 : Addr} {od16 an16 : Option Addr} {sl16 : Array (Option Value)} {oc16 kV16 dc16 pm16 cd16 ct16 : Value} {f_17 : Addr} {od17 an17 : Option Addr} {sl17 : Array (Option Value)} {oc17 kV17 dc17 pm17 cd17 ct17 : Value} {f_18 : Addr} {od18 an18 : Option Addr} {sl18 : Array (Option Value)} {oc18 kV18 dc18 pm18 cd18 ct18 : Value} {f_19 : Addr} {od19 an19 : Option Addr} {sl19 : Array (Option Value)} {oc19 kV19 dc19 pm19 cd19 ct19 : Value} {f_20 : Addr} {od20 an20 : Option Addr} {sl20 : Array (Option Value)} {oc20 kV20 dc20 pm20 cd20 ct20 : Value} {f_21 : Addr} {od21 an21 : Option Addr} {sl21 : Array (Option Value)} {oc21 kV21 dc21 pm21 cd21 ct21 : Value} {f_22 : Addr} {od22 an22 : Option Addr} {sl22 : Array (Option Value)} {oc22 kV22 dc22 pm22 cd22 ct22 : Value} {f_23 : Addr} {od23 an23 : Option Addr} {sl23 : Array (Option Value)} {oc23 kV23 dc23 pm23 cd23 ct23 : Value} {f_24 : Addr} {od24 an24 : Option Addr} {sl24 : Array (Option Value)} {oc24 kV24 dc24 pm24 cd24 ct24 : Value} {tk_MOST_WARES : Tok} {tk_MOST_ORDERS : Tok} {tk_MOST_FINDS : Tok}
    (a0 : PySem.W.nsIn K mainGlobals "is_integer" = some (some (.ref f_0)))
    (l0 : K.lookup f_0 = some ⟨oc0, od0, .func (PySem.W.fnOf "is_integer" "is_integer" (defArgs s_is_integer) (defBody s_is_integer) (defScope s_is_integer) .none kV0 dc0 pm0 an0 cd0 ct0), sl0⟩)
    (c0 : PySem.W.codeIn K cd0 "is_integer" = true)
    (k0 : PySem.W.keepIn K (.ref f_0) = true)
    (a1 : PySem.W.nsIn K mainGlobals "is_within" = some (some (.ref f_1)))
    (l1 : K.lookup f_1 = some ⟨oc1, od1, .func (PySem.W.fnOf "is_within" "is_within" (defArgs s_is_within) (defBody s_is_within) (defScope s_is_within) .none kV1 dc1 pm1 an1 cd1 ct1), sl1⟩)
    (c1 : PySem.W.codeIn K cd1 "is_within" = true)
    (k1 : PySem.W.keepIn K (.ref f_1) = true)
    (a2 : PySem.W.nsIn K mainGlobals "is_lot" = some (some (.ref f_2)))
    (l2 : K.lookup f_2 = some ⟨oc2, od2, .func (PySem.W.fnOf "is_lot" "is_lot" (defArgs s_is_lot) (defBody s_is_lot) (defScope s_is_lot) .none kV2 dc2 pm2 an2 cd2 ct2), sl2⟩)
    (c2 : PySem.W.codeIn K cd2 "is_lot" = true)
    (k2 : PySem.W.keepIn K (.ref f_2) = true)
    (a3 : PySem.W.nsIn K mainGlobals "check_finds" = some (some (.ref f_3)))
    (l3 : K.lookup f_3 = some ⟨oc3, od3, .func (PySem.W.fnOf "check_finds" "check_finds" (defArgs s_check_finds) (defBody s_check_finds) (defScope s_check_finds) .none kV3 dc3 pm3 an3 cd3 ct3), sl3⟩)
    (c3 : PySem.W.codeIn K cd3 "check_finds" = true)
    (k3 : PySem.W.keepIn K (.ref f_3) = true)
    (a4 : PySem.W.nsIn K mainGlobals "is_told" = some (some (.ref f_4)))
    (l4 : K.lookup f_4 = some ⟨oc4, od4, .func (PySem.W.fnOf "is_told" "is_told" (defArgs s_is_told) (defBody s_is_told) (defScope s_is_told) .none kV4 dc4 pm4 an4 cd4 ct4), sl4⟩)
    (c4 : PySem.W.codeIn K cd4 "is_told" = true)
    (k4 : PySem.W.keepIn K (.ref f_4) = true)
    (a5 : PySem.W.nsIn K mainGlobals "check_told" = some (some (.ref f_5)))
    (l5 : K.lookup f_5 = some ⟨oc5, od5, .func (PySem.W.fnOf "check_told" "check_told" (defArgs s_check_told) (defBody s_check_told) (defScope s_check_told) .none kV5 dc5 pm5 an5 cd5 ct5), sl5⟩)
    (c5 : PySem.W.codeIn K cd5 "check_told" = true)
    (k5 : PySem.W.keepIn K (.ref f_5) = true)
    (a6 : PySem.W.nsIn K mainGlobals "can_follow" = some (some (.ref f_6)))
    (l6 : K.lookup f_6 = some ⟨oc6, od6, .func (PySem.W.fnOf "can_follow" "can_follow" (defArgs s_can_follow) (defBody s_can_follow) (defScope s_can_follow) .none kV6 dc6 pm6 an6 cd6 ct6), sl6⟩)
    (c6 : PySem.W.codeIn K cd6 "can_follow" = true)
    (k6 : PySem.W.keepIn K (.ref f_6) = true)
    (a7 : PySem.W.nsIn K mainGlobals "orders_by_age" = some (some (.ref f_7)))
    (l7 : K.lookup f_7 = some ⟨oc7, od7, .func (PySem.W.fnOf "orders_by_age" "orders_by_age" (defArgs s_orders_by_age) (defBody s_orders_by_age) (defScope s_orders_by_age) .none kV7 dc7 pm7 an7 cd7 ct7), sl7⟩)
    (c7 : PySem.W.codeIn K cd7 "orders_by_age" = true)
    (k7 : PySem.W.keepIn K (.ref f_7) = true)
    (a8 : PySem.W.nsIn K mainGlobals "age_orders" = some (some (.ref f_8)))
    (l8 : K.lookup f_8 = some ⟨oc8, od8, .func (PySem.W.fnOf "age_orders" "age_orders" (defArgs s_age_orders) (defBody s_age_orders) (defScope s_age_orders) .none kV8 dc8 pm8 an8 cd8 ct8), sl8⟩)
    (c8 : PySem.W.codeIn K cd8 "age_orders" = true)
    (k8 : PySem.W.keepIn K (.ref f_8) = true)
    (a9 : PySem.W.nsIn K mainGlobals "stands_ahead" = some (some (.ref f_9)))
    (l9 : K.lookup f_9 = some ⟨oc9, od9, .func (PySem.W.fnOf "stands_ahead" "stands_ahead" (defArgs s_stands_ahead) (defBody s_stands_ahead) (defScope s_stands_ahead) .none kV9 dc9 pm9 an9 cd9 ct9), sl9⟩)
    (c9 : PySem.W.codeIn K cd9 "stands_ahead" = true)
    (k9 : PySem.W.keepIn K (.ref f_9) = true)
    (a10 : PySem.W.nsIn K mainGlobals "surely_ahead" = some (some (.ref f_10)))
    (l10 : K.lookup f_10 = some ⟨oc10, od10, .func (PySem.W.fnOf "surely_ahead" "surely_ahead" (defArgs s_surely_ahead) (defBody s_surely_ahead) (defScope s_surely_ahead) .none kV10 dc10 pm10 an10 cd10 ct10), sl10⟩)
    (c10 : PySem.W.codeIn K cd10 "surely_ahead" = true)
    (k10 : PySem.W.keepIn K (.ref f_10) = true)
    (a11 : PySem.W.nsIn K mainGlobals "_law_hand" = some (some (.ref f_11)))
    (l11 : K.lookup f_11 = some ⟨oc11, od11, .func (PySem.W.fnOf "_law_hand" "_law_hand" (defArgs s__law_hand) (defBody s__law_hand) (defScope s__law_hand) .none kV11 dc11 pm11 an11 cd11 ct11), sl11⟩)
    (c11 : PySem.W.codeIn K cd11 "_law_hand" = true)
    (k11 : PySem.W.keepIn K (.ref f_11) = true)
    (a12 : PySem.W.nsIn K mainGlobals "_law_same" = some (some (.ref f_12)))
    (l12 : K.lookup f_12 = some ⟨oc12, od12, .func (PySem.W.fnOf "_law_same" "_law_same" (defArgs s__law_same) (defBody s__law_same) (defScope s__law_same) .none kV12 dc12 pm12 an12 cd12 ct12), sl12⟩)
    (c12 : PySem.W.codeIn K cd12 "_law_same" = true)
    (k12 : PySem.W.keepIn K (.ref f_12) = true)
    (a13 : PySem.W.nsIn K mainGlobals "_law_draw" = some (some (.ref f_13)))
    (l13 : K.lookup f_13 = some ⟨oc13, od13, .func (PySem.W.fnOf "_law_draw" "_law_draw" (defArgs s__law_draw) (defBody s__law_draw) (defScope s__law_draw) .none kV13 dc13 pm13 an13 cd13 ct13), sl13⟩)
    (c13 : PySem.W.codeIn K cd13 "_law_draw" = true)
    (k13 : PySem.W.keepIn K (.ref f_13) = true)
    (a14 : PySem.W.nsIn K mainGlobals "_law_any" = some (some (.ref f_14)))
    (l14 : K.lookup f_14 = some ⟨oc14, od14, .func (PySem.W.fnOf "_law_any" "_law_any" (defArgs s__law_any) (defBody s__law_any) (defScope s__law_any) .none kV14 dc14 pm14 an14 cd14 ct14), sl14⟩)
    (c14 : PySem.W.codeIn K cd14 "_law_any" = true)
    (k14 : PySem.W.keepIn K (.ref f_14) = true)
    (a15 : PySem.W.nsIn K mainGlobals "_law_mixed" = some (some (.ref f_15)))
    (l15 : K.lookup f_15 = some ⟨oc15, od15, .func (PySem.W.fnOf "_law_mixed" "_law_mixed" (defArgs s__law_mixed) (defBody s__law_mixed) (defScope s__law_mixed) .none kV15 dc15 pm15 an15 cd15 ct15), sl15⟩)
    (c15 : PySem.W.codeIn K cd15 "_law_mixed" = true)
    (k15 : PySem.W.keepIn K (.ref f_15) = true)
    (a16 : PySem.W.nsIn K mainGlobals "_law_finds" = some (some (.ref f_16)))
    (l16 : K.lookup f_16 = some ⟨oc16, od16, .func (PySem.W.fnOf "_law_finds" "_law_finds" (defArgs s__law_finds) (defBody s__law_finds) (defScope s__law_finds) .none kV16 dc16 pm16 an16 cd16 ct16), sl16⟩)
    (c16 : PySem.W.codeIn K cd16 "_law_finds" = true)
    (k16 : PySem.W.keepIn K (.ref f_16) = true)
    (a17 : PySem.W.nsIn K mainGlobals "_law_told_pairs" = some (some (.ref f_17)))
    (l17 : K.lookup f_17 = some ⟨oc17, od17, .func (PySem.W.fnOf "_law_told_pairs" "_law_told_pairs" (defArgs s__law_told_pairs) (defBody s__law_told_pairs) (defScope s__law_told_pairs) .none kV17 dc17 pm17 an17 cd17 ct17), sl17⟩)
    (c17 : PySem.W.codeIn K cd17 "_law_told_pairs" = true)
    (k17 : PySem.W.keepIn K (.ref f_17) = true)
    (a18 : PySem.W.nsIn K mainGlobals "_law_orders" = some (some (.ref f_18)))
    (l18 : K.lookup f_18 = some ⟨oc18, od18, .func (PySem.W.fnOf "_law_orders" "_law_orders" (defArgs s__law_orders) (defBody s__law_orders) (defScope s__law_orders) .none kV18 dc18 pm18 an18 cd18 ct18), sl18⟩)
    (c18 : PySem.W.codeIn K cd18 "_law_orders" = true)
    (k18 : PySem.W.keepIn K (.ref f_18) = true)
    (a19 : PySem.W.nsIn K mainGlobals "_law_together" = some (some (.ref f_19)))
    (l19 : K.lookup f_19 = some ⟨oc19, od19, .func (PySem.W.fnOf "_law_together" "_law_together" (defArgs s__law_together) (defBody s__law_together) (defScope s__law_together) .none kV19 dc19 pm19 an19 cd19 ct19), sl19⟩)
    (c19 : PySem.W.codeIn K cd19 "_law_together" = true)
    (k19 : PySem.W.keepIn K (.ref f_19) = true)
    (a20 : PySem.W.nsIn K mainGlobals "_law_keeps" = some (some (.ref f_20)))
    (l20 : K.lookup f_20 = some ⟨oc20, od20, .func (PySem.W.fnOf "_law_keeps" "_law_keeps" (defArgs s__law_keeps) (defBody s__law_keeps) (defScope s__law_keeps) .none kV20 dc20 pm20 an20 cd20 ct20), sl20⟩)
    (c20 : PySem.W.codeIn K cd20 "_law_keeps" = true)
    (k20 : PySem.W.keepIn K (.ref f_20) = true)
    (a21 : PySem.W.nsIn K mainGlobals "_law_age_orders" = some (some (.ref f_21)))
    (l21 : K.lookup f_21 = some ⟨oc21, od21, .func (PySem.W.fnOf "_law_age_orders" "_law_age_orders" (defArgs s__law_age_orders) (defBody s__law_age_orders) (defScope s__law_age_orders) .none kV21 dc21 pm21 an21 cd21 ct21), sl21⟩)
    (c21 : PySem.W.codeIn K cd21 "_law_age_orders" = true)
    (k21 : PySem.W.keepIn K (.ref f_21) = true)
    (a22 : PySem.W.nsIn K mainGlobals "_law_sure" = some (some (.ref f_22)))
    (l22 : K.lookup f_22 = some ⟨oc22, od22, .func (PySem.W.fnOf "_law_sure" "_law_sure" (defArgs s__law_sure) (defBody s__law_sure) (defScope s__law_sure) .none kV22 dc22 pm22 an22 cd22 ct22), sl22⟩)
    (c22 : PySem.W.codeIn K cd22 "_law_sure" = true)
    (k22 : PySem.W.keepIn K (.ref f_22) = true)
    (a23 : PySem.W.nsIn K mainGlobals "_law_is_right" = some (some (.ref f_23)))
    (l23 : K.lookup f_23 = some ⟨oc23, od23, .func (PySem.W.fnOf "_law_is_right" "_law_is_right" (defArgs s__law_is_right) (defBody s__law_is_right) (defScope s__law_is_right) .none kV23 dc23 pm23 an23 cd23 ct23), sl23⟩)
    (c23 : PySem.W.codeIn K cd23 "_law_is_right" = true)
    (k23 : PySem.W.keepIn K (.ref f_23) = true)
    (a24 : PySem.W.nsIn K mainGlobals "law" = some (some (.ref f_24)))
    (l24 : K.lookup f_24 = some ⟨oc24, od24, .func (PySem.W.fnOf "law" "law" (defArgs s_law) (defBody s_law) (defScope s_law) .none kV24 dc24 pm24 an24 cd24 ct24), sl24⟩)
    (c24 : PySem.W.codeIn K cd24 "law" = true)
    (k24 : PySem.W.keepIn K (.ref f_24) = true)
    (z_abs : PySem.W.nsIn K mainGlobals "abs" = some none)
    (z_all : PySem.W.nsIn K mainGlobals "all" = some none)
    (z_any : PySem.W.nsIn K mainGlobals "any" = some none)
    (z_bool : PySem.W.nsIn K mainGlobals "bool" = some none)
    (z_enumerate : PySem.W.nsIn K mainGlobals "enumerate" = some none)
    (z_int : PySem.W.nsIn K mainGlobals "int" = some none)
    (z_isinstance : PySem.W.nsIn K mainGlobals "isinstance" = some none)
    (z_len : PySem.W.nsIn K mainGlobals "len" = some none)
    (z_list : PySem.W.nsIn K mainGlobals "list" = some none)
    (z_max : PySem.W.nsIn K mainGlobals "max" = some none)
    (z_range : PySem.W.nsIn K mainGlobals "range" = some none)
    (z_set : PySem.W.nsIn K mainGlobals "set" = some none)
    (z_sorted : PySem.W.nsIn K mainGlobals "sorted" = some none)
    (z_tuple : PySem.W.nsIn K mainGlobals "tuple" = some none)
    (z_zip : PySem.W.nsIn K mainGlobals "zip" = some none)
    (g_MOST_WARES : PySem.W.nsIn K mainGlobals "MOST_WARES" = some (some (.int 9 tk_MOST_WARES)))
    (g_MOST_ORDERS : PySem.W.nsIn K mainGlobals "MOST_ORDERS" = some (some (.int 3000 tk_MOST_ORDERS)))
    (g_MOST_FINDS : PySem.W.nsIn K mainGlobals "MOST_FINDS" = some (some (.int 8 tk_MOST_FINDS)))
    : ∃ fd : FuncData, (∀ (s : Shared) (v : Value), BindsTo s fd ⟨[v], []⟩ [("script", v)]) ∧ ∀ base : Heap, K.In base → base.Ns mainGlobals mg → FnOk l.prog w K mg base (L2.CX l.prog w) 23 fa fd ["script"] (spOf ⟨K, fun _ => 0, fun _ => []⟩ d_law 1) := by
  have e := hfa.symm.trans (PySem.W.mg_of X G a24)
  cases e
  have B : Bt ⟨K, fun _ => 0, fun _ => []⟩ mg := { b_abs := PySem.W.mg_none_of X G z_abs, b_all := PySem.W.mg_none_of X G z_all, b_any := PySem.W.mg_none_of X G z_any, b_bool := PySem.W.mg_none_of X G z_bool, b_enumerate := PySem.W.mg_none_of X G z_enumerate, b_int := PySem.W.mg_none_of X G z_int, b_isinstance := PySem.W.mg_none_of X G z_isinstance, b_len := PySem.W.mg_none_of X G z_len, b_list := PySem.W.mg_none_of X G z_list, b_max := PySem.W.mg_none_of X G z_max, b_range := PySem.W.mg_none_of X G z_range, b_set := PySem.W.mg_none_of X G z_set, b_sorted := PySem.W.mg_none_of X G z_sorted, b_tuple := PySem.W.mg_none_of X G z_tuple, b_zip := PySem.W.mg_none_of X G z_zip, g_MOST_WARES := gk_int (PySem.W.mg_of X G g_MOST_WARES), g_MOST_ORDERS := gk_int (PySem.W.mg_of X G g_MOST_ORDERS), g_MOST_FINDS := gk_int (PySem.W.mg_of X G g_MOST_FINDS) }
  have F_0 := fun_mk (st := s_is_integer) l0 c0 k0
  have b_0 : Binds K _ ["thing"] [] := F_0.binds (ps := ["thing"]) fun _ _ _ _ _ _ us hl => match us, hl with | [_], _ => rfl
  have F_1 := fun_mk (st := s_is_within) l1 c1 k1
  have b_1 : Binds K _ ["thing", "low", "high"] [] := F_1.binds (ps := ["thing", "low", "high"]) fun _ _ _ _ _ _ us hl => match us, hl with | [_, _, _], _ => rfl
  have F_2 := fun_mk (st := s_is_lot) l2 c2 k2
  have b_2 : Binds K _ ["limit", "thing"] [] := F_2.binds (ps := ["limit", "thing"]) fun _ _ _ _ _ _ us hl => match us, hl with | [_, _], _ => rfl
  have F_3 := fun_mk (st := s_check_finds) l3 c3 k3
  have b_3 : Binds K _ ["wide", "finds"] [] := F_3.binds (ps := ["wide", "finds"]) fun _ _ _ _ _ _ us hl => match us, hl with | [_, _], _ => rfl
  have F_4 := fun_mk (st := s_is_told) l4 c4 k4
  have b_4 : Binds K _ ["many", "pair"] [] := F_4.binds (ps := ["many", "pair"]) fun _ _ _ _ _ _ us hl => match us, hl with | [_, _], _ => rfl
  have F_5 := fun_mk (st := s_check_told) l5 c5 k5
  have b_5 : Binds K _ ["wide", "finds", "told"] [] := F_5.binds (ps := ["wide", "finds", "told"]) fun _ _ _ _ _ _ us hl => match us, hl with | [_, _, _], _ => rfl
  have F_6 := fun_mk (st := s_can_follow) l6 c6 k6
  have b_6 : Binds K _ ["finds", "order", "find"] [] := F_6.binds (ps := ["finds", "order", "find"]) fun _ _ _ _ _ _ us hl => match us, hl with | [_, _, _], _ => rfl
  have F_7 := fun_mk (st := s_orders_by_age) l7 c7 k7
  have b_7 : Binds K _ ["finds", "told", "most"] [] := F_7.binds (ps := ["finds", "told", "most"]) fun _ _ _ _ _ _ us hl => match us, hl with | [_, _, _], _ => rfl
  have F_8 := fun_mk (st := s_age_orders) l8 c8 k8
  have b_8 : Binds K _ ["wide", "finds", "told"] [] := F_8.binds (ps := ["wide", "finds", "told"]) fun _ _ _ _ _ _ us hl => match us, hl with | [_, _, _], _ => rfl
  have F_9 := fun_mk (st := s_stands_ahead) l9 c9 k9
  have b_9 : Binds K _ ["orders", "a", "b"] [] := F_9.binds (ps := ["orders", "a", "b"]) fun _ _ _ _ _ _ us hl => match us, hl with | [_, _, _], _ => rfl
  have F_10 := fun_mk (st := s_surely_ahead) l10 c10 k10
  have b_10 : Binds K _ ["wide", "finds", "told"] [] := F_10.binds (ps := ["wide", "finds", "told"]) fun _ _ _ _ _ _ us hl => match us, hl with | [_, _, _], _ => rfl
  have F_11 := fun_mk (st := s__law_hand) l11 c11 k11
  have b_11 : Binds K _ ["script"] [] := F_11.binds (ps := ["script"]) fun _ _ _ _ _ _ us hl => match us, hl with | [_], _ => rfl
  have F_12 := fun_mk (st := s__law_same) l12 c12 k12
  have b_12 : Binds K _ ["one", "due"] [] := F_12.binds (ps := ["one", "due"]) fun _ _ _ _ _ _ us hl => match us, hl with | [_, _], _ => rfl
  have F_13 := fun_mk (st := s__law_draw) l13 c13 k13
  have b_13 : Binds K _ ["hand", "many"] [] := F_13.binds (ps := ["hand", "many"]) fun _ _ _ _ _ _ us hl => match us, hl with | [_, _], _ => rfl
  have F_14 := fun_mk (st := s__law_any) l14 c14 k14
  have b_14 : Binds K _ ["hand", "some"] [] := F_14.binds (ps := ["hand", "some"]) fun _ _ _ _ _ _ us hl => match us, hl with | [_, _], _ => rfl
  have F_15 := fun_mk (st := s__law_mixed) l15 c15 k15
  have b_15 : Binds K _ ["hand", "things"] [] := F_15.binds (ps := ["hand", "things"]) fun _ _ _ _ _ _ us hl => match us, hl with | [_, _], _ => rfl
  have F_16 := fun_mk (st := s__law_finds) l16 c16 k16
  have b_16 : Binds K _ ["hand", "most"] [] := F_16.binds (ps := ["hand", "most"]) fun _ _ _ _ _ _ us hl => match us, hl with | [_, _], _ => rfl
  have F_17 := fun_mk (st := s__law_told_pairs) l17 c17 k17
  have b_17 : Binds K _ ["hand", "many"] [] := F_17.binds (ps := ["hand", "many"]) fun _ _ _ _ _ _ us hl => match us, hl with | [_, _], _ => rfl
  have F_18 := fun_mk (st := s__law_orders) l18 c18 k18
  have b_18 : Binds K _ ["many"] [] := F_18.binds (ps := ["many"]) fun _ _ _ _ _ _ us hl => match us, hl with | [_], _ => rfl
  have F_19 := fun_mk (st := s__law_together) l19 c19 k19
  have b_19 : Binds K _ ["wide", "finds", "order"] [] := F_19.binds (ps := ["wide", "finds", "order"]) fun _ _ _ _ _ _ us hl => match us, hl with | [_, _, _], _ => rfl
  have F_20 := fun_mk (st := s__law_keeps) l20 c20 k20
  have b_20 : Binds K _ ["order", "pairs"] [] := F_20.binds (ps := ["order", "pairs"]) fun _ _ _ _ _ _ us hl => match us, hl with | [_, _], _ => rfl
  have F_21 := fun_mk (st := s__law_age_orders) l21 c21 k21
  have b_21 : Binds K _ ["wide", "finds", "pairs"] [] := F_21.binds (ps := ["wide", "finds", "pairs"]) fun _ _ _ _ _ _ us hl => match us, hl with | [_, _, _], _ => rfl
  have F_22 := fun_mk (st := s__law_sure) l22 c22 k22
  have b_22 : Binds K _ ["many", "orders"] [] := F_22.binds (ps := ["many", "orders"]) fun _ _ _ _ _ _ us hl => match us, hl with | [_, _], _ => rfl
  have F_23 := fun_mk (st := s__law_is_right) l23 c23 k23
  have b_23 : Binds K _ ["hand", "wide", "finds", "pairs"] [] := F_23.binds (ps := ["hand", "wide", "finds", "pairs"]) fun _ _ _ _ _ _ us hl => match us, hl with | [_, _, _, _], _ => rfl
  have F_24 := fun_mk (st := s_law) l24 c24 k24
  refine ⟨PySem.W.fnOf "law" "law" (defArgs s_law) (defBody s_law) (defScope s_law) .none kV24 dc24 pm24 an24 cd24 ct24, fun s v => .of_eq rfl, fun base _ _ => ?_⟩
  have D_is_integer : Df l.prog w K mg base ⟨K, fun _ => 0, fun _ => []⟩ 1 "is_integer" 1 d_is_integer := Df.mk' F_0 (ok_is_integer F_0 B ) (PySem.W.mg_of X G a0) b_0
  have D_is_within : Df l.prog w K mg base ⟨K, fun _ => 0, fun _ => []⟩ 2 "is_within" 3 d_is_within := Df.mk' F_1 (ok_is_within F_1 B D_is_integer) (PySem.W.mg_of X G a1) b_1
  have D_is_lot : Df l.prog w K mg base ⟨K, fun _ => 0, fun _ => []⟩ 3 "is_lot" 2 d_is_lot := Df.mk' F_2 (ok_is_lot F_2 B D_is_within) (PySem.W.mg_of X G a2) b_2
  have D_check_finds : Df l.prog w K mg base ⟨K, fun _ => 0, fun _ => []⟩ 4 "check_finds" 2 d_check_finds := Df.mk' F_3 (ok_check_finds F_3 B D_is_within D_is_lot) (PySem.W.mg_of X G a3) b_3
  have D_is_told : Df l.prog w K mg base ⟨K, fun _ => 0, fun _ => []⟩ 3 "is_told" 2 d_is_told := Df.mk' F_4 (ok_is_told F_4 B D_is_within) (PySem.W.mg_of X G a4) b_4
  have D_check_told : Df l.prog w K mg base ⟨K, fun _ => 0, fun _ => []⟩ 5 "check_told" 3 d_check_told := Df.mk' F_5 (ok_check_told F_5 B D_check_finds D_is_told) (PySem.W.mg_of X G a5) b_5
  have D_can_follow : Df l.prog w K mg base ⟨K, fun _ => 0, fun _ => []⟩ 1 "can_follow" 3 d_can_follow := Df.mk' F_6 (ok_can_follow F_6 B ) (PySem.W.mg_of X G a6) b_6
  have D_orders_by_age : Df l.prog w K mg base ⟨K, fun _ => 0, fun _ => []⟩ 2 "orders_by_age" 3 d_orders_by_age := Df.mk' F_7 (ok_orders_by_age F_7 B D_can_follow) (PySem.W.mg_of X G a7) b_7
  have D_age_orders : Df l.prog w K mg base ⟨K, fun _ => 0, fun _ => []⟩ 6 "age_orders" 3 d_age_orders := Df.mk' F_8 (ok_age_orders F_8 B D_check_told D_orders_by_age) (PySem.W.mg_of X G a8) b_8
  have D_stands_ahead : Df l.prog w K mg base ⟨K, fun _ => 0, fun _ => []⟩ 1 "stands_ahead" 3 d_stands_ahead := Df.mk' F_9 (ok_stands_ahead F_9 B ) (PySem.W.mg_of X G a9) b_9
  have D_surely_ahead : Df l.prog w K mg base ⟨K, fun _ => 0, fun _ => []⟩ 6 "surely_ahead" 3 d_surely_ahead := Df.mk' F_10 (ok_surely_ahead F_10 B D_check_told D_orders_by_age D_stands_ahead) (PySem.W.mg_of X G a10) b_10
  have D__law_hand : Df l.prog w K mg base ⟨K, fun _ => 0, fun _ => []⟩ 1 "_law_hand" 1 d__law_hand := Df.mk' F_11 (ok__law_hand F_11 B ) (PySem.W.mg_of X G a11) b_11
  have D__law_same : Df l.prog w K mg base ⟨K, fun _ => 0, fun _ => []⟩ 21 "_law_same" 2 d__law_same := Df.mk' F_12 (ok__law_same F_12 B  (PySem.W.mg_of X G a12) b_12) (PySem.W.mg_of X G a12) b_12
  have D__law_draw : Df l.prog w K mg base ⟨K, fun _ => 0, fun _ => []⟩ 1 "_law_draw" 2 d__law_draw := Df.mk' F_13 (ok__law_draw F_13 B ) (PySem.W.mg_of X G a13) b_13
  have D__law_any : Df l.prog w K mg base ⟨K, fun _ => 0, fun _ => []⟩ 2 "_law_any" 2 d__law_any := Df.mk' F_14 (ok__law_any F_14 B D__law_draw) (PySem.W.mg_of X G a14) b_14
  have D__law_mixed : Df l.prog w K mg base ⟨K, fun _ => 0, fun _ => []⟩ 2 "_law_mixed" 2 d__law_mixed := Df.mk' F_15 (ok__law_mixed F_15 B D__law_draw) (PySem.W.mg_of X G a15) b_15
  have D__law_finds : Df l.prog w K mg base ⟨K, fun _ => 0, fun _ => []⟩ 3 "_law_finds" 2 d__law_finds := Df.mk' F_16 (ok__law_finds F_16 B D__law_draw D__law_any D__law_mixed) (PySem.W.mg_of X G a16) b_16
  have D__law_told_pairs : Df l.prog w K mg base ⟨K, fun _ => 0, fun _ => []⟩ 3 "_law_told_pairs" 2 d__law_told_pairs := Df.mk' F_17 (ok__law_told_pairs F_17 B D__law_draw D__law_any D__law_mixed) (PySem.W.mg_of X G a17) b_17
  have D__law_orders : Df l.prog w K mg base ⟨K, fun _ => 0, fun _ => []⟩ 1 "_law_orders" 1 d__law_orders := Df.mk' F_18 (ok__law_orders F_18 B ) (PySem.W.mg_of X G a18) b_18
  have D__law_together : Df l.prog w K mg base ⟨K, fun _ => 0, fun _ => []⟩ 1 "_law_together" 3 d__law_together := Df.mk' F_19 (ok__law_together F_19 B ) (PySem.W.mg_of X G a19) b_19
  have D__law_keeps : Df l.prog w K mg base ⟨K, fun _ => 0, fun _ => []⟩ 1 "_law_keeps" 2 d__law_keeps := Df.mk' F_20 (ok__law_keeps F_20 B ) (PySem.W.mg_of X G a20) b_20
  have D__law_age_orders : Df l.prog w K mg base ⟨K, fun _ => 0, fun _ => []⟩ 2 "_law_age_orders" 3 d__law_age_orders := Df.mk' F_21 (ok__law_age_orders F_21 B D__law_orders D__law_together D__law_keeps) (PySem.W.mg_of X G a21) b_21
  have D__law_sure : Df l.prog w K mg base ⟨K, fun _ => 0, fun _ => []⟩ 1 "_law_sure" 2 d__law_sure := Df.mk' F_22 (ok__law_sure F_22 B ) (PySem.W.mg_of X G a22) b_22
  have D__law_is_right : Df l.prog w K mg base ⟨K, fun _ => 0, fun _ => []⟩ 22 "_law_is_right" 4 d__law_is_right := Df.mk' F_23 (ok__law_is_right F_23 B D_age_orders D_surely_ahead D__law_same D__law_draw D__law_age_orders D__law_sure) (PySem.W.mg_of X G a23) b_23
  exact ok_law F_24 B D_age_orders D_surely_ahead D__law_hand D__law_same D__law_finds D__law_told_pairs D__law_is_right
end SW

open PySem PySem.W PyProof.Rows
set_option maxRecDepth 100000 in
set_option maxHeartbeats 0 in
theorem PySem.Challenge.cw_stretchwebs_k84_whole_orders_by_age_holds : PySem.Challenge.rw_stretchwebs_k84_whole_orders_by_age.Holds := by
  w_on; o_law; k_head; (case hw => w_witness2)
  k_fill
  refine L2.walk_of (l := PySem.Challenge.rw_stretchwebs_k84_whole_orders_by_age) (n := 63) (k := 23) (x := "script") (CX := fun w => L2.CX PySem.Challenge.rw_stretchwebs_k84_whole_orders_by_age.prog w) (sp := fun w => SW.spOf ⟨_, fun _ => 0, fun _ => []⟩ SW.d_law 1) rfl (by decide) rfl ⟨rfl, by decide, by decide⟩ (fun w h Y => PySem.W.kIn_of Y) ?F (fun _ _ a ns hl _ hS => SW.law_sp SW.law_math hl hS) (fun w H s e s' c => SW.law_cx w H s e s' c)
  case F =>
    intro w mg fa h KX G hmg
    refine' SW.all_mk KX G hmg ?a0 ?l0 ?c0 ?k0 ?a1 ?l1 ?c1 ?k1 ?a2 ?l2 ?c2 ?k2 ?a3 ?l3 ?c3 ?k3 ?a4 ?l4 ?c4 ?k4 ?a5 ?l5 ?c5 ?k5 ?a6 ?l6 ?c6 ?k6 ?a7 ?l7 ?c7 ?k7 ?a8 ?l8 ?c8 ?k8 ?a9 ?l9 ?c9 ?k9 ?a10 ?l10 ?c10 ?k10 ?a11 ?l11 ?c11 ?k11 ?a12 ?l12 ?c12 ?k12 ?a13 ?l13 ?c13 ?k13 ?a14 ?l14 ?c14 ?k14 ?a15 ?l15 ?c15 ?k15 ?a16 ?l16 ?c16 ?k16 ?a17 ?l17 ?c17 ?k17 ?a18 ?l18 ?c18 ?k18 ?a19 ?l19 ?c19 ?k19 ?a20 ?l20 ?c20 ?k20 ?a21 ?l21 ?c21 ?k21 ?a22 ?l22 ?c22 ?k22 ?a23 ?l23 ?c23 ?k23 ?a24 ?l24 ?c24 ?k24 ?z_abs ?z_all ?z_any ?z_bool ?z_enumerate ?z_int ?z_isinstance ?z_len ?z_list ?z_max ?z_range ?z_set ?z_sorted ?z_tuple ?z_zip ?g_MOST_WARES ?g_MOST_ORDERS ?g_MOST_FINDS
    (case a0 => k_is); (case l0 => k_is); (case c0 => k_is); (case k0 => k_is); (case a1 => k_is); (case l1 => k_is); (case c1 => k_is); (case k1 => k_is); (case a2 => k_is); (case l2 => k_is); (case c2 => k_is); (case k2 => k_is); (case a3 => k_is); (case l3 => k_is); (case c3 => k_is); (case k3 => k_is); (case a4 => k_is); (case l4 => k_is); (case c4 => k_is); (case k4 => k_is); (case a5 => k_is); (case l5 => k_is); (case c5 => k_is); (case k5 => k_is); (case a6 => k_is); (case l6 => k_is); (case c6 => k_is); (case k6 => k_is); (case a7 => k_is); (case l7 => k_is); (case c7 => k_is); (case k7 => k_is); (case a8 => k_is); (case l8 => k_is); (case c8 => k_is); (case k8 => k_is); (case a9 => k_is); (case l9 => k_is); (case c9 => k_is); (case k9 => k_is); (case a10 => k_is); (case l10 => k_is); (case c10 => k_is); (case k10 => k_is); (case a11 => k_is); (case l11 => k_is); (case c11 => k_is); (case k11 => k_is); (case a12 => k_is); (case l12 => k_is); (case c12 => k_is); (case k12 => k_is); (case a13 => k_is); (case l13 => k_is); (case c13 => k_is); (case k13 => k_is); (case a14 => k_is); (case l14 => k_is); (case c14 => k_is); (case k14 => k_is); (case a15 => k_is); (case l15 => k_is); (case c15 => k_is); (case k15 => k_is); (case a16 => k_is); (case l16 => k_is); (case c16 => k_is); (case k16 => k_is); (case a17 => k_is); (case l17 => k_is); (case c17 => k_is); (case k17 => k_is); (case a18 => k_is); (case l18 => k_is); (case c18 => k_is); (case k18 => k_is); (case a19 => k_is); (case l19 => k_is); (case c19 => k_is); (case k19 => k_is); (case a20 => k_is); (case l20 => k_is); (case c20 => k_is); (case k20 => k_is); (case a21 => k_is); (case l21 => k_is); (case c21 => k_is); (case k21 => k_is); (case a22 => k_is); (case l22 => k_is); (case c22 => k_is); (case k22 => k_is); (case a23 => k_is); (case l23 => k_is); (case c23 => k_is); (case k23 => k_is); (case a24 => k_is); (case l24 => k_is); (case c24 => k_is); (case k24 => k_is); (case z_abs => k_is); (case z_all => k_is); (case z_any => k_is); (case z_bool => k_is); (case z_enumerate => k_is); (case z_int => k_is); (case z_isinstance => k_is); (case z_len => k_is); (case z_list => k_is); (case z_max => k_is); (case z_range => k_is); (case z_set => k_is); (case z_sorted => k_is); (case z_tuple => k_is); (case z_zip => k_is); (case g_MOST_WARES => k_is); (case g_MOST_ORDERS => k_is); (case g_MOST_FINDS => k_is)

