import PyProof.Rows.All
import Wide.All
import OpenK.AllK
import Wide.FinOn
import HandS.ForMost
import HandS.Exc
import HandS.TryOnly
import HandS.ExcOwn
import HandS.WordsExc
import HandS.More
import HandS.Flow
import HandS.IsInst
import HandS.NoneIn
import HandS.Zip
import HandS.Conv
import HandS.Wide
import HandS.Codes
import HandS.EndTab
import HandS.Nested
import HandS.WordsDict
import KE.KNestM
import PySem.Challenge.RW_sealhouse_k71_single_expressions
set_option Elab.async false
set_option linter.all false
set_option maxRecDepth 100000
set_option maxHeartbeats 4000000
namespace SD
open PySem PySem.Spec PyProof.Rows L2

/-- values: what never changes lies within, what changes is told by its number -/
inductive U where
  | non | bl (b : Bool) | int (i : Int) | str (x : Str) | ty (n : String) | ref (n : Nat) | gl (x : Str)
  | tup (xs : List U) | fls (xs : List U)
/-- what changes -/
inductive O where
  | lst (xs : List U) | dic (kvs : List (Key × U)) | diT (kvs : List (List Key × U)) | ins (c : Str) (fs : List (Str × U))
  | clo (id : Nat) (caps : List U) | dead
abbrev Os := List O
/-! numbers below n alone -/
mutual
def U.bd (n : Nat) : U → Bool
  | .ref k => decide (k < n)
  | .tup xs => U.bds n xs
  | .fls xs => U.bds n xs
  | _ => true
def U.bds (n : Nat) : List U → Bool
  | [] => true
  | x :: xs => U.bd n x && U.bds n xs
end
def O.bd (n : Nat) : O → Bool
  | .lst xs => U.bds n xs
  | .dic kvs => kvs.all fun p => U.bd n p.2
  | .diT kvs => kvs.all fun p => U.bd n p.2
  | .ins _ fs => fs.all fun p => U.bd n p.2
  | .clo _ caps => U.bds n caps
  | .dead => true
inductive Rs (α : Type) where
  | ok (a : α) (h : Os) | exc (c : Str) (h : Os) | bad
def Rs.bind {α β : Type} (r : Rs α) (f : α → Os → Rs β) : Rs β := match r with
  | .ok a h => f a h
  | .exc c h => .exc c h
  | .bad => .bad
abbrev En := List (Option U)
abbrev EM := En → Os → Rs U
abbrev AM := En → Os → Rs (List U)

/-! ### the heap behind -/
structure Ext (T : List (Addr × Str)) (H : Hp) (m : List Addr) (H' : Hp) (m' : List Addr) : Prop where
  pre : ∃ t, m' = m ++ t
  oth : ∀ a o, H a = some o → a ∉ m → (∀ ps, o ≠ .tbl ps) → H' a = some o
  tup : ∀ a xs, H a = some (.tup xs) → H' a = some (.tup xs)
  frz : ∀ a o u, H a = some (.frz o u) → H' a = some (.frz o u)
  ext : ∀ a φ, H a = some (.ext φ) → H' a = some (.ext φ)
  stay : ∀ a, H a ≠ none → H' a ≠ none
  new : ∀ a, a ∈ m' → a ∈ m ∨ H a = none
  tbl : LamX.Tabs T H → LamX.Tabs T H'
/-- what plain values lean on -/
structure Ex1 (H : Hp) (m : List Addr) (H' : Hp) (m' : List Addr) : Prop where
  pre : ∃ t, m' = m ++ t
  tup : ∀ a xs, H a = some (.tup xs) → H' a = some (.tup xs)
  frz : ∀ a o u, H a = some (.frz o u) → H' a = some (.frz o u)
/-- what values lean on -/
structure Ex0 (H : Hp) (m : List Addr) (H' : Hp) (m' : List Addr) : Prop where
  pre : ∃ t, m' = m ++ t
  tup : ∀ a xs, H a = some (.tup xs) → H' a = some (.tup xs)
  frz : ∀ a o u, H a = some (.frz o u) → H' a = some (.frz o u)
  ext : ∀ a φ, H a = some (.ext φ) → H' a = some (.ext φ)
theorem Ex0.ex1 {H : Hp} {m : List Addr} {H' : Hp} {m' : List Addr} (x : Ex0 H m H' m') : Ex1 H m H' m' := ⟨x.pre, x.tup, x.frz⟩
theorem Ext.ex0 {T : List (Addr × Str)} {H : Hp} {m : List Addr} {H' : Hp} {m' : List Addr} (x : Ext T H m H' m') : Ex0 H m H' m' := ⟨x.pre, x.tup, x.frz, x.ext⟩
theorem Ex0.refl {H : Hp} {m : List Addr} : Ex0 H m H m := ⟨⟨[], by simp⟩, fun _ _ h => h, fun _ _ _ h => h, fun _ _ h => h⟩
theorem Ex0.trans {H H1 H2 : Hp} {m m1 m2 : List Addr} (a : Ex0 H m H1 m1) (b : Ex0 H1 m1 H2 m2) : Ex0 H m H2 m2 :=
  ⟨let ⟨t, e⟩ := a.pre; let ⟨u, e'⟩ := b.pre; ⟨t ++ u, by rw [e', e]; simp⟩, fun x xs h => b.tup _ _ (a.tup _ _ h), fun x o u h => b.frz _ _ _ (a.frz _ _ _ h), fun x φ h => b.ext _ _ (a.ext _ _ h)⟩
theorem Ext.refl {T : List (Addr × Str)} {H : Hp} {m : List Addr} : Ext T H m H m :=
  ⟨⟨[], by simp⟩, fun _ _ h _ _ => h, fun _ _ h => h, fun _ _ _ h => h, fun _ _ h => h, fun _ h => h, fun _ h => .inl h, fun h => h⟩
theorem Ext.trans {T : List (Addr × Str)} {H H1 H2 : Hp} {m m1 m2 : List Addr} (a : Ext T H m H1 m1) (b : Ext T H1 m1 H2 m2) : Ext T H m H2 m2 := by
  refine ⟨?_, fun x o h n1 n2 => ?_, fun x xs h => b.tup _ _ (a.tup _ _ h), fun x o u h => b.frz _ _ _ (a.frz _ _ _ h), fun x φ h => b.ext _ _ (a.ext _ _ h), fun x h => b.stay _ (a.stay _ h), fun x h => ?_, fun h => b.tbl (a.tbl h)⟩
  · obtain ⟨t, rfl⟩ := a.pre
    obtain ⟨u, rfl⟩ := b.pre
    exact ⟨t ++ u, by simp⟩
  · refine b.oth x o (a.oth x o h n1 n2) (fun z => ?_) n2
    rcases a.new x z with z | z
    · exact n1 z
    · rw [h] at z; cases z
  · rcases b.new x h with z | z
    · exact a.new x z
    · right
      cases e : H x with
      | none => rfl
      | some o => exact absurd z (a.stay x (by rw [e]; simp))
/-- a new object that no number tells -/
theorem Ext.fresh {T : List (Addr × Str)} {H : Hp} {m : List Addr} {p : Addr} {o : HO} (h : H p = none) : Ext T H m (upd H p o) m where
  pre := ⟨[], by simp⟩
  oth := fun a u e _ _ => by rw [upd_ne (ne_of_none e h)]; exact e
  tup := fun a u e => by rw [upd_ne (ne_of_none e h)]; exact e
  frz := fun a o u e => by rw [upd_ne (ne_of_none e h)]; exact e
  ext := fun a u e => by rw [upd_ne (ne_of_none e h)]; exact e
  stay := fun a e => by
    by_cases z : a = p
    · subst z; exact absurd h e
    · rw [upd_ne z]; exact e
  new := fun a h => .inl h
  tbl := fun t => LamX.Tabs.ext t fun b o e => by rw [upd_ne (ne_of_none e h)]; exact e
/-- .. that gets the next number -/
theorem Ext.more {T : List (Addr × Str)} {H : Hp} {m : List Addr} {p : Addr} {o : HO} (h : H p = none) : Ext T H m (upd H p o) (m ++ [p]) :=
  let e := Ext.fresh (T := T) (m := m) (o := o) h
  ⟨⟨[p], rfl⟩, e.oth, e.tup, e.frz, e.ext, e.stay, fun a ha => by
    rcases List.mem_append.mp ha with z | z
    · exact .inl z
    · simp at z; subst z; exact .inr h, e.tbl⟩
/-- an object that is tracked gets a number -/
theorem Ext.grow {T : List (Addr × Str)} {H H' : Hp} {m m' : List Addr} {p : Addr} (x : Ext T H m H' m') (h : H p = none) : Ext T H m H' (m' ++ [p]) :=
  ⟨let ⟨t, e⟩ := x.pre; ⟨t ++ [p], by rw [e]; simp⟩, x.oth, x.tup, x.frz, x.ext, x.stay, fun a ha => by
    rcases List.mem_append.mp ha with z | z
    · exact x.new a z
    · simp at z; subst z; exact .inr h, x.tbl⟩
/-- fewer numbers -/
theorem Ext.less {T : List (Addr × Str)} {H H' : Hp} {m m' : List Addr} (x : Ext T H m H' m') : Ext T H m H' m :=
  ⟨⟨[], by simp⟩, x.oth, x.tup, x.frz, x.ext, x.stay, fun a h => .inl h, x.tbl⟩
def isMut : HO → Bool
  | .lst _ => true | .dK _ => true | .dT _ => true | .ins _ _ _ => true | _ => false
/-- an object with a number is written -/
theorem Ext.write {T : List (Addr × Str)} {H : Hp} {m : List Addr} {a : Addr} {o o' : HO} (hm : a ∈ m) (h : H a = some o) (mu : isMut o = true) : Ext T H m (upd H a o') m where
  pre := ⟨[], by simp⟩
  oth := fun b u e n _ => by rw [upd_ne (fun z => by subst z; exact n hm)]; exact e
  tup := fun b u e => by rw [upd_ne (fun z => by subst z; rw [h] at e; cases e; cases mu)]; exact e
  frz := fun b _ u e => by rw [upd_ne (fun z => by subst z; rw [h] at e; cases e; cases mu)]; exact e
  ext := fun b u e => by rw [upd_ne (fun z => by subst z; rw [h] at e; cases e; cases mu)]; exact e
  stay := fun b e => by
    by_cases z : b = a
    · subst z; rw [upd_same]; simp
    · rw [upd_ne z]; exact e
  new := fun a h => .inl h
  tbl := fun t p hp => by
    obtain ⟨ps, h1, h2, h3⟩ := t p hp
    refine ⟨ps, ?_, h2, fun pos cv hc => ?_⟩
    · rw [upd_ne (fun z => by rw [← z, h1] at h; cases h; cases mu)]; exact h1
    · obtain ⟨c, e1, e2⟩ := h3 pos cv hc
      refine ⟨c, e1, ?_⟩
      rw [upd_ne (fun z => by rw [← z, e2] at h; cases h; cases mu)]; exact e2
/-- an object with no number, not there before, is written -/
theorem Ext.mut {T : List (Addr × Str)} {H H1 : Hp} {m m' : List Addr} {a : Addr} {o o' : HO} (x : Ext T H m H1 m') (hn : H a = none) (h : H1 a = some o) (mu : isMut o = true) (hm : a ∉ m') : Ext T H m (upd H1 a o') m' where
  pre := x.pre
  oth := fun b u e n k => by rw [upd_ne (ne_of_none e hn)]; exact x.oth b u e n k
  tup := fun b u e => by rw [upd_ne (ne_of_none e hn)]; exact x.tup b u e
  frz := fun b _ u e => by rw [upd_ne (ne_of_none e hn)]; exact x.frz b _ u e
  ext := fun b u e => by rw [upd_ne (ne_of_none e hn)]; exact x.ext b u e
  stay := fun b e => by
    by_cases z : b = a
    · subst z; rw [upd_same]; simp
    · rw [upd_ne z]; exact x.stay b e
  new := x.new
  tbl := fun t p hp => by
    obtain ⟨ps, h1, h2, h3⟩ := x.tbl t p hp
    refine ⟨ps, ?_, h2, fun pos cv hc => ?_⟩
    · rw [upd_ne (fun z => by rw [← z, h1] at h; cases h; cases mu)]; exact h1
    · obtain ⟨c, e1, e2⟩ := h3 pos cv hc
      refine ⟨c, e1, ?_⟩
      rw [upd_ne (fun z => by rw [← z, e2] at h; cases h; cases mu)]; exact e2

/-- a thing that changes is written -/
theorem Ex0.side {H : Hp} {m : List Addr} {a : Addr} {o o' : HO} (h : H a = some o) (mu : isMut o = true) : Ex0 H m (upd H a o') m where
  pre := ⟨[], by simp⟩
  tup := fun b u e => by rw [upd_ne (fun z => by subst z; rw [h] at e; cases e; cases mu)]; exact e
  frz := fun b _ u e => by rw [upd_ne (fun z => by subst z; rw [h] at e; cases e; cases mu)]; exact e
  ext := fun b u e => by rw [upd_ne (fun z => by subst z; rw [h] at e; cases e; cases mu)]; exact e
theorem rd_mono {H H' : Hp} {m m' : List Addr} {a : Addr} {xs : List V} (e : Ex1 H m H' m') (h : Rd H a (.tup xs)) : Rd H' a (.tup xs) := by
  rcases h with h | ⟨o, h⟩
  · exact .inl (e.tup _ _ h)
  · exact .inr ⟨o, e.frz _ _ _ h⟩
theorem sqt_mono {K : PySem.W.Frag} {H H' : Hp} {m m' : List Addr} {a : Addr} {xs : List V} (e : Ex1 H m H' m') (h : SqT K H a xs) : SqT K H' a xs := by
  rcases h with h | h
  · exact .inl (rd_mono e h)
  · exact .inr h
/-- a list that nobody writes -/
def Fz (K : PySem.W.Frag) (H : Hp) (a : Addr) (xs : List V) : Prop :=
  (∃ o, H a = some (.frz o (.lst xs))) ∨
    ∃ (o : Obj) (its : Array Value) (n : Nat), K.lookup a = some o ∧ o.cls = .type "list" ∧ o.dict = none ∧ o.data = .seq its n ∧ its.size ≤ sizeLine ∧ Vals xs its.toList
theorem Fz.sq {K : PySem.W.Frag} {H : Hp} {a : Addr} {xs : List V} (h : Fz K H a xs) : SqL K H a xs := by
  rcases h with ⟨o, h⟩ | h
  · exact .inl (.inr ⟨o, h⟩)
  · exact .inr h
theorem fz_mono {K : PySem.W.Frag} {H H' : Hp} {m m' : List Addr} {a : Addr} {xs : List V} (e : Ex1 H m H' m') (h : Fz K H a xs) : Fz K H' a xs := by
  rcases h with ⟨o, h⟩ | h
  · exact .inl ⟨o, e.frz _ _ _ h⟩
  · exact .inr h

/-! ### values in the heap -/
mutual
inductive RU (K : PySem.W.Frag) (mg : Str → Option Value) (H : Hp) (m : List Addr) : V → U → Prop
  | non : RU K mg H m .non .non
  | bl (b : Bool) : RU K mg H m (.bl b) (.bl b)
  | int (i : Int) : RU K mg H m (.int i) (.int i)
  | str (x : Str) : RU K mg H m (.str x) (.str x)
  | ty (n : String) : RU K mg H m (.ty n) (.ty n)
  | ref {n : Nat} {a : Addr} : m[n]? = some a → RU K mg H m (.ref a) (.ref n)
  | gl {x : Str} {a : Addr} : mg x = some (.ref a) → RU K mg H m (.ref a) (.gl x)
  | tup {a : Addr} {vs : List V} {xs : List U} : H a = some (.tup vs) → RUs K mg H m vs xs → RU K mg H m (.ref a) (.tup xs)
  | fls {a : Addr} {vs : List V} {xs : List U} : Fz K H a vs → RUs K mg H m vs xs → RU K mg H m (.ref a) (.fls xs)
inductive RUs (K : PySem.W.Frag) (mg : Str → Option Value) (H : Hp) (m : List Addr) : List V → List U → Prop
  | nil : RUs K mg H m [] []
  | cons {v : V} {vs : List V} {u : U} {us : List U} : RU K mg H m v u → RUs K mg H m vs us → RUs K mg H m (v :: vs) (u :: us)
end
section
variable {K : PySem.W.Frag} {mg : Str → Option Value} {T : List (Addr × Str)} {H H' : Hp} {m m' : List Addr}
mutual
theorem RU.mono1 (e : Ex1 H m H' m') : ∀ {v : V} {u : U}, RU K mg H m v u → RU K mg H' m' v u
  | _, _, .non => .non
  | _, _, .bl b => .bl b
  | _, _, .int i => .int i
  | _, _, .str x => .str x
  | _, _, .ty x => .ty x
  | _, _, .ref h => .ref (by
      obtain ⟨t, e⟩ := e.pre
      rw [e, List.getElem?_append_left (List.getElem?_eq_some_iff.mp h).1]
      exact h)
  | _, _, .gl h => .gl h
  | _, _, .tup h r => .tup (e.tup _ _ h) (RUs.mono1 e r)
  | _, _, .fls h r => .fls (fz_mono e h) (RUs.mono1 e r)
theorem RUs.mono1 (e : Ex1 H m H' m') : ∀ {vs : List V} {us : List U}, RUs K mg H m vs us → RUs K mg H' m' vs us
  | _, _, .nil => .nil
  | _, _, .cons h r => .cons (RU.mono1 e h) (RUs.mono1 e r)
end
theorem RU.mono0 (e : Ex0 H m H' m') {v : V} {u : U} (r : RU K mg H m v u) : RU K mg H' m' v u := r.mono1 e.ex1
theorem RUs.mono0 (e : Ex0 H m H' m') {v : List V} {u : List U} (r : RUs K mg H m v u) : RUs K mg H' m' v u := r.mono1 e.ex1
theorem RU.mono (e : Ext T H m H' m') {v : V} {u : U} (r : RU K mg H m v u) : RU K mg H' m' v u := r.mono0 e.ex0
theorem RUs.mono (e : Ext T H m H' m') {v : List V} {u : List U} (r : RUs K mg H m v u) : RUs K mg H' m' v u := r.mono0 e.ex0
theorem RUs.length : ∀ {vs : List V} {us : List U}, RUs K mg H m vs us → vs.length = us.length
  | _, _, .nil => rfl
  | _, _, .cons _ r => congrArg (· + 1) (RUs.length r)
theorem RUs.get : ∀ {vs : List V} {us : List U} {i : Nat} {u : U}, RUs K mg H m vs us → us[i]? = some u → ∃ v, vs[i]? = some v ∧ RU K mg H m v u
  | _, _, _, _, .nil, e => by simp at e
  | _, _, 0, _, .cons r _, e => by simp at e; subst e; exact ⟨_, rfl, r⟩
  | _, _, i + 1, u, .cons _ t, e => by
    obtain ⟨v, h1, h2⟩ := RUs.get (i := i) (u := u) t (by simpa using e)
    exact ⟨v, by simpa using h1, h2⟩
theorem RUs.getV : ∀ {vs : List V} {us : List U} {i : Nat} {v : V}, RUs K mg H m vs us → vs[i]? = some v → ∃ u, us[i]? = some u ∧ RU K mg H m v u
  | _, _, _, _, .nil, e => by simp at e
  | _, _, 0, _, .cons r _, e => by simp at e; subst e; exact ⟨_, rfl, r⟩
  | _, _, i + 1, u, .cons _ t, e => by
    obtain ⟨v, h1, h2⟩ := RUs.getV (i := i) (v := u) t (by simpa using e)
    exact ⟨v, by simpa using h1, h2⟩
theorem RUs.append : ∀ {vs ws : List V} {us ts : List U}, RUs K mg H m vs us → RUs K mg H m ws ts → RUs K mg H m (vs ++ ws) (us ++ ts)
  | _, _, _, _, .nil, s => s
  | _, _, _, _, .cons r t, s => .cons r (RUs.append t s)
theorem RUs.set {x : V} {u : U} (r : RU K mg H m x u) : ∀ {vs : List V} {us : List U} (i : Nat), RUs K mg H m vs us → RUs K mg H m (vs.set i x) (us.set i u)
  | _, _, _, .nil => .nil
  | _, _, 0, .cons _ t => .cons r t
  | _, _, i + 1, .cons q t => .cons q (RUs.set r i t)
theorem RUs.take : ∀ {vs : List V} {us : List U} (n : Nat), RUs K mg H m vs us → RUs K mg H m (vs.take n) (us.take n)
  | _, _, 0, _ => .nil
  | _, _, _ + 1, .nil => .nil
  | _, _, n + 1, .cons r t => .cons r (RUs.take n t)
theorem RUs.drop : ∀ {vs : List V} {us : List U} (n : Nat), RUs K mg H m vs us → RUs K mg H m (vs.drop n) (us.drop n)
  | _, _, 0, r => r
  | _, _, _ + 1, .nil => .nil
  | _, _, n + 1, .cons _ t => RUs.drop n t
theorem RUs.eraseIdx : ∀ {vs : List V} {us : List U} (n : Nat), RUs K mg H m vs us → RUs K mg H m (vs.eraseIdx n) (us.eraseIdx n)
  | _, _, _, .nil => .nil
  | _, _, 0, .cons _ t => t
  | _, _, n + 1, .cons r t => .cons r (RUs.eraseIdx n t)
end
/-- pairs of a dict, of an instance -/
inductive RKs {κ : Type} (K : PySem.W.Frag) (mg : Str → Option Value) (H : Hp) (m : List Addr) : List (κ × V) → List (κ × U) → Prop
  | nil : RKs K mg H m [] []
  | cons {k : κ} {v : V} {u : U} {es : List (κ × V)} {fs : List (κ × U)} : RU K mg H m v u → RKs K mg H m es fs → RKs K mg H m ((k, v) :: es) ((k, u) :: fs)
section
variable {κ : Type} {K : PySem.W.Frag} {mg : Str → Option Value} {T : List (Addr × Str)} {H H' : Hp} {m m' : List Addr}
theorem RKs.mono1 (e : Ex1 H m H' m') : ∀ {es : List (κ × V)} {fs : List (κ × U)}, RKs K mg H m es fs → RKs K mg H' m' es fs
  | _, _, .nil => .nil
  | _, _, .cons h r => .cons (h.mono1 e) (RKs.mono1 e r)
theorem RKs.mono0 (e : Ex0 H m H' m') {es : List (κ × V)} {fs : List (κ × U)} (r : RKs K mg H m es fs) : RKs K mg H' m' es fs := r.mono1 e.ex1
theorem RKs.mono (e : Ext T H m H' m') {es : List (κ × V)} {fs : List (κ × U)} (r : RKs K mg H m es fs) : RKs K mg H' m' es fs := r.mono0 e.ex0
theorem RKs.length : ∀ {es : List (κ × V)} {fs : List (κ × U)}, RKs K mg H m es fs → es.length = fs.length
  | _, _, .nil => rfl
  | _, _, .cons _ r => congrArg (· + 1) (RKs.length r)
end

/-! ### the context -/
structure Ct where
  K : PySem.W.Frag
  mg : Str → Option Value
  T : List (Addr × Str)
  L : Nat → Hp → List Addr → Addr → List U → Prop
  Dd : Addr → HO → Prop
  De : ∀ a o, Dd a o → ∃ φ, o = .ext φ
  Lm : ∀ id H m H' m' a caps, Ex0 H m H' m' → L id H m a caps → L id H' m' a caps
  Ls : ∀ id H m t a caps, U.bds m.length caps = true → L id H (m ++ t) a caps → L id H m a caps
def RO (C : Ct) (H : Hp) (m : List Addr) (a : Addr) : O → Prop
  | .lst xs => ∃ vs, H a = some (.lst vs) ∧ RUs C.K C.mg H m vs xs
  | .dic kvs => ∃ es, H a = some (.dK es) ∧ RKs C.K C.mg H m es kvs
  | .diT kvs => ∃ es, H a = some (.dT es) ∧ RKs C.K C.mg H m es kvs
  | .ins c fs => ∃ Ca dx es, C.mg c = some (.ref Ca) ∧ H a = some (.ins Ca dx es) ∧ RKs C.K C.mg H m es fs
  | .clo id caps => (∃ o, H a = some o ∧ C.Dd a o) ∧ C.L id H m a caps
  | .dead => ∃ o, H a = some o ∧ C.Dd a o
structure HR (C : Ct) (H : Hp) (m : List Addr) (h : Os) : Prop where
  len : m.length = h.length
  nd : m.Nodup
  obj : ∀ (n : Nat) (a : Addr) (o : O), m[n]? = some a → h[n]? = some o → RO C H m a o
structure Sta (C : Ct) (H : Hp) (m : List Addr) (σ : L2.St) (ρ : En) (h : Os) : Prop where
  len : σ.length = ρ.length
  rs : ∀ (i : Nat) (u : U), ρ[i]? = some (some u) → ∃ v, σ[i]? = some (some v) ∧ RU C.K C.mg H m v u
  tb : LamX.Tabs C.T H
  hr : HR C H m h
section
variable {C : Ct} {H H' : Hp} {m m' : List Addr} {h h' : Os} {a p : Addr} {o : O} {ho : HO}
theorem RO.there (r : RO C H m a o) : ∃ o, H a = some o := by
  cases o with
  | lst xs => obtain ⟨_, e, _⟩ := r; exact ⟨_, e⟩
  | dic xs => obtain ⟨_, e, _⟩ := r; exact ⟨_, e⟩
  | diT xs => obtain ⟨_, e, _⟩ := r; exact ⟨_, e⟩
  | ins c fs => obtain ⟨_, _, _, _, e, _⟩ := r; exact ⟨_, e⟩
  | clo c fs => obtain ⟨⟨_, e, _⟩, _⟩ := r; exact ⟨_, e⟩
  | dead => obtain ⟨o, e, _⟩ := r; exact ⟨o, e⟩
theorem RO.mono0 (r : RO C H m a o) (x : Ex0 H m H' m') (e : H' a = H a) : RO C H' m' a o := by
  cases o with
  | lst xs => obtain ⟨vs, e1, r⟩ := r; exact ⟨vs, by rw [e, e1], r.mono0 x⟩
  | dic xs => obtain ⟨vs, e1, r⟩ := r; exact ⟨vs, by rw [e, e1], r.mono0 x⟩
  | diT xs => obtain ⟨vs, e1, r⟩ := r; exact ⟨vs, by rw [e, e1], r.mono0 x⟩
  | ins c fs => obtain ⟨Ca, dx, es, e0, e1, r⟩ := r; exact ⟨Ca, dx, es, e0, by rw [e, e1], r.mono0 x⟩
  | clo c fs => obtain ⟨⟨φ, e1, d⟩, l⟩ := r; exact ⟨⟨φ, by rw [e, e1], d⟩, C.Lm _ _ _ _ _ _ _ x l⟩
  | dead => obtain ⟨o, e1, d⟩ := r; exact ⟨o, by rw [e, e1], d⟩
theorem RO.mono (r : RO C H m a o) (x : Ext C.T H m H' m') (e : H' a = H a) : RO C H' m' a o := r.mono0 x.ex0 e
theorem HR.there (r : HR C H m h) (ha : a ∈ m) : ∃ o, H a = some o := by
  obtain ⟨n, hn⟩ := List.mem_iff_getElem?.mp ha
  have hl : n < h.length := by rw [← r.len]; exact (List.getElem?_eq_some_iff.mp hn).1
  exact (r.obj n a h[n] hn (List.getElem?_eq_getElem hl)).there
theorem HR.fresh (r : HR C H m h) (hp : H p = none) : p ∉ m := fun z => by
  obtain ⟨o, e⟩ := r.there z
  rw [hp] at e; cases e
/-- all objects stay -/
theorem HR.keep0 (r : HR C H m h) (x : Ex0 H m H' m) (k : ∀ a ∈ m, H' a = H a) : HR C H' m h :=
  ⟨r.len, r.nd, fun n a o e1 e2 => (r.obj n a o e1 e2).mono0 x (k a (List.mem_of_getElem? e1))⟩
/-- one without a number is written -/
theorem HR.side {oo : HO} (r : HR C H m h) (hm : p ∉ m) (e : H p = some oo) (mu : isMut oo = true) : HR C (upd H p ho) m h :=
  r.keep0 (Ex0.side e mu) fun a ha => upd_ne fun z => hm (z ▸ ha)
theorem HR.keep (r : HR C H m h) (x : Ext C.T H m H' m) (k : ∀ a ∈ m, H' a = H a) : HR C H' m h :=
  ⟨r.len, r.nd, fun n a o e1 e2 => (r.obj n a o e1 e2).mono x (k a (List.mem_of_getElem? e1))⟩
theorem HR.freshO (r : HR C H m h) (hp : H p = none) : HR C (upd H p ho) m h :=
  r.keep (Ext.fresh hp) fun a ha => by
    obtain ⟨o, e⟩ := r.there ha
    rw [upd_ne (ne_of_none e hp)]
/-- a new one -/
theorem HR.push (r : HR C H m h) (hp : H p = none) (n : RO C (upd H p ho) (m ++ [p]) p o) : HR C (upd H p ho) (m ++ [p]) (h ++ [o]) := by
  refine ⟨by simp [r.len], ?_, fun k a u e1 e2 => ?_⟩
  · rw [List.nodup_append]
    refine ⟨r.nd, by simp, fun a ha b hb => ?_⟩
    simp at hb
    subst hb
    intro z
    subst z
    exact r.fresh hp ha
  · by_cases hk : k < m.length
    · rw [List.getElem?_append_left hk] at e1
      rw [List.getElem?_append_left (by rw [← r.len]; exact hk)] at e2
      obtain ⟨o', e⟩ := r.there (List.mem_of_getElem? e1)
      exact (r.obj k a u e1 e2).mono (Ext.more hp) (by rw [upd_ne (ne_of_none e hp)])
    · rw [List.getElem?_append_right (by omega)] at e1
      rw [List.getElem?_append_right (by rw [← r.len]; omega)] at e2
      have hz : k - m.length = 0 := by
        have := (List.getElem?_eq_some_iff.mp e1).1
        simp at this
        omega
      rw [hz] at e1
      rw [← r.len, hz] at e2
      simp at e1 e2
      subst e1
      subst e2
      exact n
/-- an object that stands gets a number -/
theorem HR.add (r : HR C H m h) (hm : p ∉ m) (he : ∃ o, H p = some o) (n : RO C H (m ++ [p]) p o) : HR C H (m ++ [p]) (h ++ [o]) := by
  refine ⟨by simp [r.len], ?_, fun k a u e1 e2 => ?_⟩
  · rw [List.nodup_append]
    refine ⟨r.nd, by simp, fun a ha b hb => ?_⟩
    simp at hb
    subst hb
    intro z
    subst z
    exact hm ha
  · by_cases hk : k < m.length
    · rw [List.getElem?_append_left hk] at e1
      rw [List.getElem?_append_left (by rw [← r.len]; exact hk)] at e2
      exact (r.obj k a u e1 e2).mono0 ⟨⟨[p], rfl⟩, fun _ _ h => h, fun _ _ _ h => h, fun _ _ h => h⟩ rfl
    · rw [List.getElem?_append_right (by omega)] at e1
      rw [List.getElem?_append_right (by rw [← r.len]; omega)] at e2
      have hz : k - m.length = 0 := by
        have := (List.getElem?_eq_some_iff.mp e1).1
        simp at this
        omega
      rw [hz] at e1
      rw [← r.len, hz] at e2
      simp at e1 e2
      subst e1
      subst e2
      exact n
theorem idx_nd {m : List Addr} (hm : m.Nodup) {i j : Nat} {a : Addr} (h1 : m[i]? = some a) (h2 : m[j]? = some a) : i = j := by
  obtain ⟨l1, e1⟩ := List.getElem?_eq_some_iff.mp h1
  obtain ⟨l2, e2⟩ := List.getElem?_eq_some_iff.mp h2
  exact (List.getElem_inj hm).mp (e1.trans e2.symm)
/-- one is written -/
theorem HR.put {n : Nat} {oo : HO} (r : HR C H m h) (hn : m[n]? = some a) (e : H a = some oo) (mu : isMut oo = true) (q : RO C (upd H a ho) m a o) : HR C (upd H a ho) m (h.set n o) := by
  refine ⟨by simp [r.len], r.nd, fun k b u e1 e2 => ?_⟩
  by_cases hk : k = n
  · subst hk
    rw [hn] at e1
    cases e1
    rw [List.getElem?_set_self (by rw [← r.len]; exact (List.getElem?_eq_some_iff.mp hn).1)] at e2
    cases e2
    exact q
  · rw [List.getElem?_set_ne (Ne.symm hk)] at e2
    have hb : b ≠ a := fun z => by
      subst z
      exact hk (idx_nd r.nd e1 hn)
    exact (r.obj k b u e1 e2).mono (Ext.write (List.mem_of_getElem? hn) e mu) (by rw [upd_ne hb])
theorem HR.lst {n : Nat} {xs : List U} (r : HR C H m h) (hn : m[n]? = some a) (e : h[n]? = some (.lst xs)) : ∃ vs, H a = some (.lst vs) ∧ RUs C.K C.mg H m vs xs := r.obj n a _ hn e
theorem HR.dic {n : Nat} {xs : List (Key × U)} (r : HR C H m h) (hn : m[n]? = some a) (e : h[n]? = some (.dic xs)) : ∃ vs, H a = some (.dK vs) ∧ RKs C.K C.mg H m vs xs := r.obj n a _ hn e
theorem HR.diT {n : Nat} {xs : List (List Key × U)} (r : HR C H m h) (hn : m[n]? = some a) (e : h[n]? = some (.diT xs)) : ∃ vs, H a = some (.dT vs) ∧ RKs C.K C.mg H m vs xs := r.obj n a _ hn e
end
section
variable {C : Ct} {H H' : Hp} {m m' : List Addr} {h h' : Os} {σ : L2.St} {ρ : En}
theorem Sta.go (s : Sta C H m σ ρ h) (x : Ext C.T H m H' m') (r : HR C H' m' h') : Sta C H' m' σ ρ h' :=
  ⟨s.len, fun i u e => let ⟨v, e1, r1⟩ := s.rs i u e; ⟨v, e1, r1.mono x⟩, x.tbl s.tb, r⟩
theorem Sta.set (s : Sta C H m σ ρ h) {i : Nat} {v : V} {u : U} (r : RU C.K C.mg H m v u) : Sta C H m (σ.set i (some v)) (ρ.set i (some u)) h := by
  refine ⟨by simp [s.len], fun j w e => ?_, s.tb, s.hr⟩
  by_cases hj : i = j
  · subst hj
    by_cases hl : i < ρ.length
    · rw [List.getElem?_set_self hl] at e
      cases e
      exact ⟨v, List.getElem?_set_self (by rw [s.len]; exact hl), r⟩
    · rw [List.getElem?_eq_none (by simpa using hl)] at e
      cases e
  · rw [List.getElem?_set_ne hj] at e
    rw [List.getElem?_set_ne hj]
    exact s.rs j w e
end

/-! ### an expression, by the interpreter -/
def PoE (C : Ct) (E : XK) (H : Hp) (m : List Addr) (r : Rs U) (Q : VK) : Prop := match r with
  | .ok u h => ∀ v H' m', Ext C.T H m H' m' → HR C H' m' h → RU C.K C.mg H' m' v u → Q v H'
  | .exc c h => ∀ H' m' cl, Ext C.T H m H' m' → HR C H' m' h → C.mg c = some cl → E cl none H'
  | .bad => False
def PoA (C : Ct) (E : XK) (H : Hp) (m : List Addr) (r : Rs (List U)) (Q : List V → Hp → Prop) : Prop := match r with
  | .ok us h => ∀ vs H' m', Ext C.T H m H' m' → HR C H' m' h → RUs C.K C.mg H' m' vs us → Q vs H'
  | .exc c h => ∀ H' m' cl, Ext C.T H m H' m' → HR C H' m' h → C.mg c = some cl → E cl none H'
  | .bad => False
def PoB (C : Ct) (E : XK) (H : Hp) (m : List Addr) (r : Rs Bool) (Q : Bool → Hp → Prop) : Prop := match r with
  | .ok b h => ∀ H' m', Ext C.T H m H' m' → HR C H' m' h → Q b H'
  | .exc c h => ∀ H' m' cl, Ext C.T H m H' m' → HR C H' m' h → C.mg c = some cl → E cl none H'
  | .bad => False
def tM (C : Ct) (W : WX) (f : EM) : TE := fun σ H Q => ∃ m ρ h, Sta C H m σ ρ h ∧ PoE C (WE W σ) H m (f ρ h) Q
def tMA (C : Ct) (W : WX) (f : AM) : TA := fun σ H Q => ∃ m ρ h, Sta C H m σ ρ h ∧ PoA C (WE W σ) H m (f ρ h) Q
def tMB (C : Ct) (W : WX) (f : En → Os → Rs Bool) : TT := fun σ H Q => ∃ m ρ h, Sta C H m σ ρ h ∧ PoB C (WE W σ) H m (f ρ h) Q
section
variable {C : Ct} {W : WX} {E : XK} {σ : L2.St} {ρ : En} {H H' : Hp} {m m' : List Addr} {h h' : Os}
theorem PoE.mono {r : Rs U} {Q : VK} (p : PoE C E H m r Q) (x : Ext C.T H m H' m') : PoE C E H' m' r Q := by
  cases r with
  | ok u h => exact fun v H2 m2 y => p v H2 m2 (x.trans y)
  | exc c h => exact fun H2 m2 cl y => p H2 m2 cl (x.trans y)
  | bad => exact p
theorem PoA.mono {r : Rs (List U)} {Q : List V → Hp → Prop} (p : PoA C E H m r Q) (x : Ext C.T H m H' m') : PoA C E H' m' r Q := by
  cases r with
  | ok u h => exact fun v H2 m2 y => p v H2 m2 (x.trans y)
  | exc c h => exact fun H2 m2 cl y => p H2 m2 cl (x.trans y)
  | bad => exact p
theorem PoB.mono {r : Rs Bool} {Q : Bool → Hp → Prop} (p : PoB C E H m r Q) (x : Ext C.T H m H' m') : PoB C E H' m' r Q := by
  cases r with
  | ok u h => exact fun H2 m2 y => p H2 m2 (x.trans y)
  | exc c h => exact fun H2 m2 cl y => p H2 m2 cl (x.trans y)
  | bad => exact p
/-- it gives u, in the heap as it is -/
theorem PoE.here {u : U} {v : V} {Q : VK} (p : PoE C E H m (.ok u h) Q) (s : HR C H m h) (r : RU C.K C.mg H m v u) : Q v H := p v H m Ext.refl s r
/-- the first part of a row: then the rest -/
theorem tM_then {f : EM} {g : U → Os → Rs U} {Q : VK} {R : V → Hp → Prop} (s : Sta C H m σ ρ h) (p : PoE C (WE W σ) H m ((f ρ h).bind g) Q)
    (k : ∀ v H1 m1 u h1, Ext C.T H m H1 m1 → Sta C H1 m1 σ ρ h1 → RU C.K C.mg H1 m1 v u → PoE C (WE W σ) H1 m1 (g u h1) Q → R v H1) : tM C W f σ H R := by
  refine ⟨m, ρ, h, s, ?_⟩
  cases e : f ρ h with
  | ok u h1 =>
    rw [e] at p
    exact fun v H1 m1 x r ru => k v H1 m1 u h1 x (s.go x r) ru (PoE.mono (r := g u h1) p x)
  | exc c h1 => rw [e] at p; exact p
  | bad => rw [e] at p; exact p
theorem tM_thenA {f : EM} {g : U → Os → Rs (List U)} {Q : List V → Hp → Prop} {R : V → Hp → Prop} (s : Sta C H m σ ρ h) (p : PoA C (WE W σ) H m ((f ρ h).bind g) Q)
    (k : ∀ v H1 m1 u h1, Ext C.T H m H1 m1 → Sta C H1 m1 σ ρ h1 → RU C.K C.mg H1 m1 v u → PoA C (WE W σ) H1 m1 (g u h1) Q → R v H1) : tM C W f σ H R := by
  refine ⟨m, ρ, h, s, ?_⟩
  cases e : f ρ h with
  | ok u h1 =>
    rw [e] at p
    exact fun v H1 m1 x r ru => k v H1 m1 u h1 x (s.go x r) ru (PoA.mono (r := g u h1) p x)
  | exc c h1 => rw [e] at p; exact p
  | bad => rw [e] at p; exact p
theorem tM_thenB {f : EM} {g : U → Os → Rs Bool} {Q : Bool → Hp → Prop} {R : V → Hp → Prop} (s : Sta C H m σ ρ h) (p : PoB C (WE W σ) H m ((f ρ h).bind g) Q)
    (k : ∀ v H1 m1 u h1, Ext C.T H m H1 m1 → Sta C H1 m1 σ ρ h1 → RU C.K C.mg H1 m1 v u → PoB C (WE W σ) H1 m1 (g u h1) Q → R v H1) : tM C W f σ H R := by
  refine ⟨m, ρ, h, s, ?_⟩
  cases e : f ρ h with
  | ok u h1 =>
    rw [e] at p
    exact fun v H1 m1 x r ru => k v H1 m1 u h1 x (s.go x r) ru (PoB.mono (r := g u h1) p x)
  | exc c h1 => rw [e] at p; exact p
  | bad => rw [e] at p; exact p
theorem tMA_then {f : AM} {g : List U → Os → Rs U} {Q : VK} {R : List V → Hp → Prop} (s : Sta C H m σ ρ h) (p : PoE C (WE W σ) H m ((f ρ h).bind g) Q)
    (k : ∀ vs H1 m1 us h1, Ext C.T H m H1 m1 → Sta C H1 m1 σ ρ h1 → RUs C.K C.mg H1 m1 vs us → PoE C (WE W σ) H1 m1 (g us h1) Q → R vs H1) : tMA C W f σ H R := by
  refine ⟨m, ρ, h, s, ?_⟩
  cases e : f ρ h with
  | ok u h1 =>
    rw [e] at p
    exact fun v H1 m1 x r ru => k v H1 m1 u h1 x (s.go x r) ru (PoE.mono (r := g u h1) p x)
  | exc c h1 => rw [e] at p; exact p
  | bad => rw [e] at p; exact p
theorem tMA_thenA {f : AM} {g : List U → Os → Rs (List U)} {Q : List V → Hp → Prop} {R : List V → Hp → Prop} (s : Sta C H m σ ρ h) (p : PoA C (WE W σ) H m ((f ρ h).bind g) Q)
    (k : ∀ vs H1 m1 us h1, Ext C.T H m H1 m1 → Sta C H1 m1 σ ρ h1 → RUs C.K C.mg H1 m1 vs us → PoA C (WE W σ) H1 m1 (g us h1) Q → R vs H1) : tMA C W f σ H R := by
  refine ⟨m, ρ, h, s, ?_⟩
  cases e : f ρ h with
  | ok u h1 =>
    rw [e] at p
    exact fun v H1 m1 x r ru => k v H1 m1 u h1 x (s.go x r) ru (PoA.mono (r := g u h1) p x)
  | exc c h1 => rw [e] at p; exact p
  | bad => rw [e] at p; exact p
theorem tMB_then {f : En → Os → Rs Bool} {g : Bool → Os → Rs U} {Q : VK} {R : Bool → Hp → Prop} (s : Sta C H m σ ρ h) (p : PoE C (WE W σ) H m ((f ρ h).bind g) Q)
    (k : ∀ b H1 m1 h1, Ext C.T H m H1 m1 → Sta C H1 m1 σ ρ h1 → PoE C (WE W σ) H1 m1 (g b h1) Q → R b H1) : tMB C W f σ H R := by
  refine ⟨m, ρ, h, s, ?_⟩
  cases e : f ρ h with
  | ok u h1 =>
    rw [e] at p
    exact fun H1 m1 x r => k u H1 m1 h1 x (s.go x r) (PoE.mono (r := g u h1) p x)
  | exc c h1 => rw [e] at p; exact p
  | bad => rw [e] at p; exact p
theorem tMB_thenB {f : En → Os → Rs Bool} {g : Bool → Os → Rs Bool} {Q : Bool → Hp → Prop} {R : Bool → Hp → Prop} (s : Sta C H m σ ρ h) (p : PoB C (WE W σ) H m ((f ρ h).bind g) Q)
    (k : ∀ b H1 m1 h1, Ext C.T H m H1 m1 → Sta C H1 m1 σ ρ h1 → PoB C (WE W σ) H1 m1 (g b h1) Q → R b H1) : tMB C W f σ H R := by
  refine ⟨m, ρ, h, s, ?_⟩
  cases e : f ρ h with
  | ok u h1 =>
    rw [e] at p
    exact fun H1 m1 x r => k u H1 m1 h1 x (s.go x r) (PoB.mono (r := g u h1) p x)
  | exc c h1 => rw [e] at p; exact p
  | bad => rw [e] at p; exact p
/-- .. as the last part -/
theorem tM_last {f : EM} {Q : VK} (s : Sta C H m σ ρ h) (p : PoE C (WE W σ) H m (f ρ h) Q) : tM C W f σ H Q := ⟨m, ρ, h, s, p⟩
end
theorem _root_.L2.PE.imp {X : Cx} {e : Expr} {t t' : TE} (h : PE X e t) (k : ∀ σ H Q, t' σ H Q → t σ H Q) : PE X e t' := ⟨fun pins s σ H Q I q => h.run pins s σ H Q I (k σ H Q q)⟩
theorem _root_.L2.PT.imp {X : Cx} {e : Expr} {t t' : TT} (h : PT X e t) (k : ∀ σ H Q, t' σ H Q → t σ H Q) : PT X e t' := ⟨fun pins s σ H Q I q => h.run pins s σ H Q I (k σ H Q q)⟩
theorem _root_.L2.PA.imp {X : Cx} {e : List Expr} {t t' : TA} (h : PA X e t) (k : ∀ σ H Q, t' σ H Q → t σ H Q) : PA X e t' := ⟨fun pos pins s σ H Q I q => h.run pos pins s σ H Q I (k σ H Q q)⟩
theorem _root_.L2.PS.imp {X : Cx} {e : Stmt} {t t' : TS} (h : PS X e t) (k : ∀ D σ H, t' D σ H → t D σ H) : PS X e t' := ⟨fun pins s σ H D I q => h.run pins s σ H D I (k D σ H q)⟩
theorem _root_.L2.PSs.imp {X : Cx} {e : List Stmt} {t t' : TS} (h : PSs X e t) (k : ∀ D σ H, t' D σ H → t D σ H) : PSs X e t' := ⟨fun pins s σ H D I q => h.run pins s σ H D I (k D σ H q)⟩
end SD
namespace SD
open PySem PySem.Spec PyProof.Rows L2

/-! ### two values are one -/
mutual
def U.eqb : U → U → Bool
  | .non, .non => true
  | .bl a, .bl b => a == b
  | .int a, .int b => a == b
  | .str a, .str b => decide (a = b)
  | .ty a, .ty b => a == b
  | .ref a, .ref b => a == b
  | .gl a, .gl b => decide (a = b)
  | .tup a, .tup b => U.eqbs a b
  | .fls a, .fls b => U.eqbs a b
  | _, _ => false
def U.eqbs : List U → List U → Bool
  | [], [] => true
  | a :: as, b :: bs => U.eqb a b && U.eqbs as bs
  | _, _ => false
end
mutual
theorem U.eqb_refl : ∀ a : U, U.eqb a a = true
  | .non => rfl
  | .bl a => by simp [U.eqb]
  | .int a => by simp [U.eqb]
  | .str a => by simp [U.eqb]
  | .ty a => by simp [U.eqb]
  | .ref a => by simp [U.eqb]
  | .gl a => by simp [U.eqb]
  | .tup a => by rw [U.eqb]; exact U.eqbs_refl a
  | .fls a => by rw [U.eqb]; exact U.eqbs_refl a
theorem U.eqbs_refl : ∀ a : List U, U.eqbs a a = true
  | [] => rfl
  | a :: as => by rw [U.eqbs, U.eqb_refl a, U.eqbs_refl as]; rfl
end
mutual
theorem U.eqb_eq : ∀ a b : U, U.eqb a b = true → a = b
  | .non, b, h => by cases b <;> simp [U.eqb] at h <;> rfl
  | .bl a, b, h => by cases b <;> simp [U.eqb] at h <;> rw [h]
  | .int a, b, h => by cases b <;> simp [U.eqb] at h <;> rw [h]
  | .str a, b, h => by cases b <;> simp [U.eqb] at h <;> rw [h]
  | .ty a, b, h => by cases b <;> simp [U.eqb] at h <;> rw [h]
  | .ref a, b, h => by cases b <;> simp [U.eqb] at h <;> rw [h]
  | .gl a, b, h => by cases b <;> simp [U.eqb] at h <;> rw [h]
  | .tup a, b, h => by
    cases b with
    | tup b => rw [U.eqb] at h; rw [U.eqbs_eq a b h]
    | _ => simp [U.eqb] at h
  | .fls a, b, h => by
    cases b with
    | fls b => rw [U.eqb] at h; rw [U.eqbs_eq a b h]
    | _ => simp [U.eqb] at h
theorem U.eqbs_eq : ∀ a b : List U, U.eqbs a b = true → a = b
  | [], b, h => by cases b with
    | nil => rfl
    | cons _ _ => simp [U.eqbs] at h
  | a :: as, b, h => by
    cases b with
    | nil => simp [U.eqbs] at h
    | cons b bs =>
      rw [U.eqbs, Bool.and_eq_true] at h
      rw [U.eqb_eq a b h.1, U.eqbs_eq as bs h.2]
end
/-- lists that must stand as they are -/
abbrev Gd := List (Nat × List U)
def gdOk (g : Gd) (h : Os) : Bool := g.all fun p => match h[p.1]? with
  | some (.lst ys) => U.eqbs p.2 ys
  | _ => false
theorem gdOk_mem {g : Gd} {h : Os} (k : gdOk g h = true) {n : Nat} {xs : List U} (hm : (n, xs) ∈ g) : h[n]? = some (.lst xs) := by
  have q := List.all_eq_true.mp k _ hm
  cases e : h[n]? with
  | none => rw [e] at q; cases q
  | some o =>
    rw [e] at q
    cases o with
    | lst ys =>
      have q' : U.eqbs xs ys = true := q
      rw [U.eqbs_eq _ _ q']
    | _ => cases q

/-! ### == of data -/
mutual
def toD : Nat → Os → U → Option PyData
  | _, _, .non => some .none
  | _, _, .bl b => some (.bool b)
  | _, _, .int i => some (.int i)
  | _, _, .str x => if PyData.strOk x = true then some (.str x) else none
  | k + 1, h, .tup xs => (toDs k h xs).map .tuple
  | k + 1, h, .fls xs => (toDs k h xs).map .list
  | k + 1, h, .ref n => match h[n]? with
    | some (.lst xs) => (toDs k h xs).map .list
    | _ => none
  | _, _, _ => none
termination_by k _ u => (k, sizeOf u)
def toDs : Nat → Os → List U → Option (List PyData)
  | _, _, [] => some []
  | k, h, x :: xs => match toD k h x, toDs k h xs with
    | some d, some ds => some (d :: ds)
    | _, _ => none
termination_by k _ us => (k, sizeOf us)
end
section
variable {C : Ct} {H : Hp} {m : List Addr} {h : Os}
theorem sqL_of {K : PySem.W.Frag} {H : Hp} {a : Addr} {xs : List V} (h : H a = some (.lst xs)) : SqL K H a xs := .inl (.inl h)
mutual
theorem toD_ok (hr : HR C H m h) : ∀ (k : Nat) (u : U) (v : V) (d : PyData), toD k h u = some d → RU C.K C.mg H m v u → Dp C.K H v d ∧ d.canLay0 = true ∧ d.depth ≤ k
  | k, .non, v, d, e, r => by
    cases r
    simp only [toD, Option.some.injEq] at e
    subst e
    exact ⟨.non, rfl, Nat.zero_le _⟩
  | k, .bl b, v, d, e, r => by
    cases r
    simp only [toD, Option.some.injEq] at e
    subst e
    exact ⟨.bl _, rfl, Nat.zero_le _⟩
  | k, .int b, v, d, e, r => by
    cases r
    simp only [toD, Option.some.injEq] at e
    subst e
    exact ⟨.int _, rfl, Nat.zero_le _⟩
  | k, .str b, v, d, e, r => by
    cases r
    rw [toD] at e
    split at e
    · rename_i hb
      cases e
      exact ⟨.str _, hb, Nat.zero_le _⟩
    · cases e
  | 0, .tup xs, v, d, e, r => by simp [toD] at e
  | 0, .fls xs, v, d, e, r => by simp [toD] at e
  | 0, .ref n, v, d, e, r => by simp [toD] at e
  | k, .ty n, v, d, e, r => by cases k <;> simp [toD] at e
  | k, .gl n, v, d, e, r => by cases k <;> simp [toD] at e
  | k + 1, .tup xs, v, d, e, r => by
    cases r with
    | tup hs ru =>
      rw [toD] at e
      obtain ⟨ds, e1, e2⟩ := Option.map_eq_some_iff.mp e
      obtain ⟨q1, q2, q3⟩ := toDs_ok hr k xs _ ds e1 ru
      subst e2
      exact ⟨.tup (SqT.of hs) q1, q2, Nat.succ_le_succ q3⟩
  | k + 1, .fls xs, v, d, e, r => by
    cases r with
    | fls hs ru =>
      rw [toD] at e
      obtain ⟨ds, e1, e2⟩ := Option.map_eq_some_iff.mp e
      obtain ⟨q1, q2, q3⟩ := toDs_ok hr k xs _ ds e1 ru
      subst e2
      exact ⟨.lst hs.sq q1, q2, Nat.succ_le_succ q3⟩
  | k + 1, .ref n, v, d, e, r => by
    cases r with
    | ref hn =>
      rw [toD] at e
      cases ho : h[n]? with
      | none => rw [ho] at e; cases e
      | some o =>
        rw [ho] at e
        cases o with
        | lst xs =>
          obtain ⟨ds, e1, e2⟩ := Option.map_eq_some_iff.mp e
          obtain ⟨vs, ha, ru⟩ := hr.lst hn ho
          obtain ⟨q1, q2, q3⟩ := toDs_ok hr k xs _ ds e1 ru
          subst e2
          exact ⟨.lst (sqL_of ha) q1, q2, Nat.succ_le_succ q3⟩
        | _ => cases e
termination_by k u => (k, sizeOf u)
theorem toDs_ok (hr : HR C H m h) : ∀ (k : Nat) (us : List U) (vs : List V) (ds : List PyData), toDs k h us = some ds → RUs C.K C.mg H m vs us → DpAll C.K H vs ds ∧ PyData.canLayAll0 ds = true ∧ PyData.depthAll ds ≤ k
  | k, [], vs, ds, e, r => by
    cases r
    simp only [toDs, Option.some.injEq] at e
    subst e
    exact ⟨.nil, rfl, Nat.zero_le _⟩
  | k, x :: xs, vs, ds, e, r => by
    cases r with
    | cons r1 r2 =>
      rw [toDs] at e
      cases e1 : toD k h x with
      | none => rw [e1] at e; cases e
      | some d =>
        cases e2 : toDs k h xs with
        | none => rw [e1, e2] at e; cases e
        | some ds' =>
          rw [e1, e2] at e
          cases e
          obtain ⟨a1, a2, a3⟩ := toD_ok hr k x _ d e1 r1
          obtain ⟨b1, b2, b3⟩ := toDs_ok hr k xs _ ds' e2 r2
          refine ⟨.cons a1 b1, ?_, ?_⟩
          · show (PyData.canLay0 d && PyData.canLayAll0 ds') = true
            rw [a2, b2]; rfl
          · show max d.depth (PyData.depthAll ds') ≤ k
            exact Nat.max_le.mpr ⟨a3, b3⟩
termination_by k us => (k, sizeOf us)
end
end
/-- a dict's pairs as data -/
def toKs (h : Os) : List (Key × U) → Option (List (Key × PyData))
  | [] => some []
  | (k, u) :: r => match toD 60 h u, toKs h r with
    | some d, some ds => some ((k, d) :: ds)
    | _, _ => none
def lookD (ds : List (Key × PyData)) (k : Key) : Option PyData := (ds.find? fun p => decide (p.1 = k)).map (·.2)
def hitsD (es : List (Key × PyData)) : List (Key × PyData) → Bool
  | [] => true
  | (k, d) :: r => match lookD es k with
    | none => false
    | some e => PyData.eqv d e && hitsD es r
inductive DKs (K : PySem.W.Frag) (H : Hp) : List (Key × V) → List (Key × PyData) → Prop
  | nil : DKs K H [] []
  | cons {k : Key} {v : V} {d : PyData} {es : List (Key × V)} {ds : List (Key × PyData)} : Dp K H v d → d.canLay0 = true → d.depth ≤ 60 → DKs K H es ds → DKs K H ((k, v) :: es) ((k, d) :: ds)
theorem DKs.length {K : PySem.W.Frag} {H : Hp} : ∀ {es : List (Key × V)} {ds : List (Key × PyData)}, DKs K H es ds → es.length = ds.length
  | _, _, .nil => rfl
  | _, _, .cons _ _ _ r => congrArg (· + 1) r.length
theorem toKs_ok {C : Ct} {H : Hp} {m : List Addr} {h : Os} (hr : HR C H m h) : ∀ (kvs : List (Key × U)) (es : List (Key × V)) (ds : List (Key × PyData)), toKs h kvs = some ds → RKs C.K C.mg H m es kvs → DKs C.K H es ds
  | [], _, ds, e, r => by
    cases r
    simp only [toKs, Option.some.injEq] at e
    subst e
    exact .nil
  | (k, u) :: rest, _, ds, e, r => by
    cases r with
    | cons r1 r2 =>
      rw [toKs] at e
      cases e1 : toD 60 h u with
      | none => rw [e1] at e; cases e
      | some d =>
        cases e2 : toKs h rest with
        | none => rw [e1, e2] at e; cases e
        | some ds' =>
          rw [e1, e2] at e
          cases e
          obtain ⟨a1, a2, a3⟩ := toD_ok hr 60 u _ d e1 r1
          exact .cons a1 a2 a3 (toKs_ok hr rest _ ds' e2 r2)
theorem DKs.look {K : PySem.W.Frag} {H : Hp} {k : Key} : ∀ {es : List (Key × V)} {ds : List (Key × PyData)}, DKs K H es ds →
    (valV es k = none ∧ lookD ds k = none) ∨ ∃ v d, valV es k = some v ∧ lookD ds k = some d ∧ Dp K H v d ∧ d.canLay0 = true ∧ d.depth ≤ 60
  | _, _, .nil => .inl ⟨rfl, rfl⟩
  | _, _, .cons (k := k') (v := v) (d := d) (es := es) (ds := ds) h1 h2 h3 r => by
    by_cases e : k' = k
    · subst e
      exact .inr ⟨v, d, valV_pos rfl, by simp [lookD], h1, h2, h3⟩
    · rcases r.look (k := k) with ⟨q1, q2⟩ | ⟨v', d', q1, q2, q⟩
      · refine .inl ⟨(valV_neg e).trans q1, ?_⟩
        rw [← q2]
        simp [lookD, List.find?_cons, e]
      · refine .inr ⟨v', d', (valV_neg e).trans q1, ?_, q⟩
        rw [← q2]
        simp [lookD, List.find?_cons, e]
section
variable {X : Cx} {pins : List (Addr × Obj)} {σ : L2.St} {H : Hp} {s : Shared}
theorem hits_of (I : Inv X pins σ H s) {A : Around} (hu : A.units + 62 < cLine) {es2 : List (Key × V)} {ds2 : List (Key × PyData)} {vb : List (Key × Value)} (rb : KV es2 vb) (k2 : DKs X.K H es2 ds2) {es : List (Key × V)} {ds : List (Key × PyData)} (k1 : DKs X.K H es ds) : ∀ {va : List (Key × Value)}, KV es va → PySem.W.KeqHits A s vb va (hitsD ds2 ds) := by
  induction k1 with
  | nil =>
    intro va ra
    cases ra
    exact .nil
  | @cons k v d es ds h1 h2 h3 r ih =>
    intro va ra
    cases ra with
    | @cons _ q' _ _ q ra =>
      obtain ⟨q1, q2⟩ := q
      obtain ⟨k', x⟩ := q'
      have q1' : k = k' := q1
      subst q1'
      have rl := rb.val k
      rcases k2.look (k := k) with ⟨a1, a2⟩ | ⟨v', d', a1, a2, b1, b2, b3⟩
      · rw [a1] at rl
        have e0 : valueAt vb k = none := by
          cases e : valueAt vb k with
          | none => rfl
          | some y => rw [e] at rl; exact rl.elim
        have ez : hitsD ds2 ((k, d) :: ds) = false := by simp [hitsD, a2]
        rw [ez]
        exact .miss e0
      · rw [a1] at rl
        obtain ⟨y, hy, ry⟩ := rl.some_of
        have ez : hitsD ds2 ((k, d) :: ds) = (PyData.eqv d d' && hitsD ds2 ds) := by simp [hitsD, a2]
        rw [ez]
        obtain ⟨as1, r1⟩ := Dp.reads I d _ _ h1 q2
        obtain ⟨as2, r2⟩ := Dp.reads I d' _ _ b1 ry
        refine .hit hy (SeqAt.eqAt_reads d d' A s _ _ _ _ r1 r2 h2 b2 ?_) (ih ra)
        have := Nat.min_le_left d.depth d'.depth
        omega
def rEqKD (K : PySem.W.Frag) : R2 := fun x y H Q => ∃ a b es fs ds ks, x = .ref a ∧ y = .ref b ∧ H a = some (.dK es) ∧ H b = some (.dK fs) ∧ DKs K H es ds ∧ DKs K H fs ks ∧ Q (.bl (ds.length == ks.length && hitsD ks ds)) H
def rNeKD (K : PySem.W.Frag) : R2 := fun x y H Q => ∃ a b es fs ds ks, x = .ref a ∧ y = .ref b ∧ H a = some (.dK es) ∧ H b = some (.dK fs) ∧ DKs K H es ds ∧ DKs K H fs ks ∧ Q (.bl (!(ds.length == ks.length && hitsD ks ds))) H
theorem op_eqKD (hu : X.A.units + 64 < cLine) : OpR X (compareOp .Eq) (rEqKD X.K) := by
  intro pins s σ H x y v u Q I rx ry h
  obtain ⟨a, b, es, fs, ds, ks, rfl, rfl, ea, eb, k1, k2, q⟩ := h
  obtain rfl : v = Value.ref a := rx
  obtain rfl : u = Value.ref b := ry
  obtain ⟨_, ya, va, ra, da⟩ := (show ObjOk X.prog X.w H s.heap a (.dK es) from I.hok a _ ea)
  obtain ⟨_, yb, vb, rb, db⟩ := (show ObjOk X.prog X.w H s.heap b (.dK fs) from I.hok b _ eb)
  refine PySem.W.keq_eq (knd := mixKind X.prog X.w) ya yb da db (by omega) (fun _ => hits_of I (A := X.A.in1) (by show X.A.units + 1 + 62 < cLine; omega) rb k2 k1 ra) (fin_bl I q ?_)
  rw [← k1.length, ← k2.length, ra.length, rb.length]
theorem op_neKD (hu : X.A.units + 64 < cLine) : OpR X (compareOp .NotEq) (rNeKD X.K) := by
  intro pins s σ H x y v u Q I rx ry h
  obtain ⟨a, b, es, fs, ds, ks, rfl, rfl, ea, eb, k1, k2, q⟩ := h
  obtain rfl : v = Value.ref a := rx
  obtain rfl : u = Value.ref b := ry
  obtain ⟨_, ya, va, ra, da⟩ := (show ObjOk X.prog X.w H s.heap a (.dK es) from I.hok a _ ea)
  obtain ⟨_, yb, vb, rb, db⟩ := (show ObjOk X.prog X.w H s.heap b (.dK fs) from I.hok b _ eb)
  refine PySem.W.keq_ne (knd := mixKind X.prog X.w) ya yb da db (by omega) (fun _ => hits_of I (A := X.A.in1) (by show X.A.units + 1 + 62 < cLine; omega) rb k2 k1 ra) (fin_bl I q ?_)
  rw [← k1.length, ← k2.length, ra.length, rb.length]
end
end SD
namespace SD
open PySem PySem.Spec PyProof.Rows L2

structure XOk (C : Ct) (X : Cx) (W : WX) (k : Nat) : Prop where
  K : X.K = C.K
  mg : X.mg = C.mg
  calm : X.calm = true
  nd : X.N.Nodup
  room : Room k X.A
  tk : Takes X W
theorem XOk.hu {C : Ct} {X : Cx} {W : WX} {k : Nat} (x : XOk C X W k) : X.A.units + 64 < cLine := x.room.units
theorem XOk.hu1 {C : Ct} {X : Cx} {W : WX} {k : Nat} (x : XOk C X W k) : X.A.units + 1 < cLine := by have := x.hu; omega

/-! ### what is new -/
section
variable {C : Ct} {E : XK} {H : Hp} {m : List Addr} {h : Os} {Q : VK} {q : Addr}
theorem PoE.newO {o : O} {ho : HO} (p : PoE C E H m (.ok (.ref h.length) (h ++ [o])) Q) (hr : HR C H m h) (hq : H q = none) (ro : RO C (upd H q ho) (m ++ [q]) q o) : Q (.ref q) (upd H q ho) :=
  p (.ref q) _ (m ++ [q]) (Ext.more hq) (hr.push hq ro) (.ref (by rw [← hr.len, List.getElem?_append_right (Nat.le_refl _)]; simp))
theorem PoE.newL {vs : List V} {us : List U} (p : PoE C E H m (.ok (.ref h.length) (h ++ [.lst us])) Q) (hr : HR C H m h) (ru : RUs C.K C.mg H m vs us) (hq : H q = none) : Q (.ref q) (upd H q (.lst vs)) :=
  p.newO hr hq ⟨vs, upd_same, ru.mono (Ext.more (T := C.T) hq)⟩
theorem PoE.newT {vs : List V} {us : List U} (p : PoE C E H m (.ok (.tup us) h) Q) (hr : HR C H m h) (ru : RUs C.K C.mg H m vs us) (hq : H q = none) : Q (.ref q) (upd H q (.tup vs)) :=
  p (.ref q) _ m (Ext.fresh hq) (hr.freshO hq) (.tup upd_same (ru.mono (Ext.fresh (T := C.T) hq)))
end

/-! ### values by a binary operation -/
abbrev OpU := U → U → Os → Rs U
def VOp (C : Ct) (r : R2) (op : OpU) : Prop := ∀ (E : XK) (H : Hp) (m : List Addr) (h : Os) (x y : V) (ux uy : U) (Q : VK), HR C H m h → RU C.K C.mg H m x ux → RU C.K C.mg H m y uy → PoE C E H m (op ux uy h) Q → r x y H Q
def mVar (i : Nat) : EM := fun ρ h => match ρ[i]? with
  | some (some u) => .ok u h
  | _ => .bad
def mC (u : U) : EM := fun _ h => .ok u h
def mBin (op : OpU) (a b : EM) : EM := fun ρ h => (a ρ h).bind fun x h1 => (b ρ h1).bind fun y h2 => op x y h2
section
variable {C : Ct} {X : Cx} {W : WX} {k : Nat} {a b : Expr} {fa fb : EM} {pos : Pos}
theorem ie_var {i : Nat} {x : Str} (hN : X.N[i]? = some x) (hv : Vis X.env.scope x) (hd : (x == ("__debug__" : Str)) = false := by decide) (hcd : (x == ("__classdict__" : Str)) = false := by decide) : PE X (.Name x pos) (tM C W (mVar i)) := by
  refine (pe_var (i := i) hN hv hd hcd).imp fun σ H Q ⟨m, ρ, h, s, p⟩ => ?_
  unfold mVar at p
  cases e : ρ[i]? with
  | none => rw [e] at p; exact p.elim
  | some o =>
    cases o with
    | none => rw [e] at p; exact p.elim
    | some u =>
      rw [e] at p
      obtain ⟨v, e1, r⟩ := s.rs i u e
      exact ⟨v, e1, p.here s.hr r⟩
theorem ie_c {e : Expr} {v : V} {u : U} (h : PE X e (tC v)) (r : ∀ H m, RU C.K C.mg H m v u) : PE X e (tM C W (mC u)) :=
  h.imp fun σ H Q ⟨m, ρ, h, s, p⟩ => PoE.here (u := u) p s.hr (r H m)
theorem ie_int {i j} : PE X (.Constant (.int i) j pos) (tM C W (mC (.int i))) := ie_c pe_int fun _ _ => .int i
theorem ie_str {i j} : PE X (.Constant (.str i) j pos) (tM C W (mC (.str i))) := ie_c pe_str fun _ _ => .str i
theorem ie_bl {i j} : PE X (.Constant (.bool i) j pos) (tM C W (mC (.bl i))) := ie_c pe_bl fun _ _ => .bl i
theorem ie_non {j} : PE X (.Constant .none j pos) (tM C W (mC .non)) := ie_c pe_non fun _ _ => .non
/-- a built-in class as a value -/
theorem ie_ty {x : Str} {n : String} (hg : Gl X x) (hm : X.mg x = none) (hv : bootBuiltins x = some (.type n)) (hn : x ≠ "__name__" := by decide) (hd : (x == ("__debug__" : Str)) = false := by decide) : PE X (.Name x pos) (tM C W (mC (.ty n))) :=
  ie_c (pe_bltn (v := .ty n) hg hm hv rfl hn hd) fun _ _ => .ty n
/-- a def, a class of the module as a value -/
theorem ie_gl {x : Str} {f : Addr} (o : XOk C X W k) (hg : Gl X x) (hm : X.mg x = some (.ref f)) (hd : (x == ("__debug__" : Str)) = false := by decide) : PE X (.Name x pos) (tM C W (mC (.gl x))) :=
  ie_c (pe_glob (v := .ref f) hg hm rfl hd) fun _ _ => .gl (by rw [← o.mg]; exact hm)
theorem tOp_of {r : R2} {op : OpU} (hv : VOp C r op) {σ : L2.St} {H : Hp} {Q : VK} (q : tM C W (mBin op fa fb) σ H Q) : tOp r (tM C W fa) (tM C W fb) σ H Q := by
  obtain ⟨m, ρ, h, s, p⟩ := q
  refine tM_then s p fun v H1 m1 u h1 x1 s1 r1 p1 => ?_
  refine tM_then s1 p1 fun v2 H2 m2 u2 h2 x2 s2 r2 p2 => ?_
  exact hv _ H2 m2 h2 v v2 u u2 Q s2.hr (r1.mono x2) r2 p2
theorem ie_op {o : Operator} {r : R2} {op : OpU} (ho : OpR X (binaryOp o) r) (hv : VOp C r op) (ha : PE X a (tM C W fa)) (hb : PE X b (tM C W fb)) : PE X (.BinOp a o b pos) (tM C W (mBin op fa fb)) :=
  (pe_op ho ha hb).imp fun _ _ _ q => tOp_of hv q
theorem ie_cmp {o : CmpOp} {r : R2} {op : OpU} (ho : OpR X (compareOp o) r) (hv : VOp C r op) (ha : PE X a (tM C W fa)) (hb : PE X b (tM C W fb)) (hm : behindInMarks o b = false) : PE X (.Compare a [o] [b] pos) (tM C W (mBin op fa fb)) :=
  (pe_cmpR ho ha hb hm).imp fun _ _ _ q => tOp_of hv q
theorem ie_ix {r : R2} {op : OpU} (ho : IxR X r) (hv : VOp C r op) (ha : PE X a (tM C W fa)) (hb : PE X b (tM C W fb)) (hs : PlainIx b) : PE X (.Subscript a b pos) (tM C W (mBin op fa fb)) :=
  (pe_ix ho ha hb hs).imp fun _ _ _ q => tOp_of hv q
end

/-! ### numbers -/
def opI (c : Int → Int → Bool) (f : Int → Int → U) : OpU := fun x y h => match x, y with
  | .int i, .int j => if c i j = true then .ok (f i j) h else .bad
  | _, _ => .bad
theorem vop_I {C : Ct} {P : Int → Int → Prop} {c : Int → Int → Bool} {g : Int → Int → V} {f : Int → Int → U} (hc : ∀ i j, c i j = true → P i j) (hf : ∀ i j K mg H m, RU K mg H m (g i j) (f i j)) : VOp C (rI P g) (opI c f) := by
  intro E H m h x y ux uy Q hr rx ry p
  unfold opI at p
  split at p
  · split at p
    · rename_i hh
      cases rx
      cases ry
      exact ⟨_, _, rfl, rfl, hc _ _ hh, p.here hr (hf _ _ _ _ _ _)⟩
    · exact p.elim
  · exact p.elim
theorem vop_I0 {C : Ct} {g : Int → Int → V} {f : Int → Int → U} (hf : ∀ i j K mg H m, RU K mg H m (g i j) (f i j)) : VOp C (rI0 g) (opI (fun _ _ => true) f) := by
  intro E H m h x y ux uy Q hr rx ry p
  unfold opI at p
  split at p
  · cases rx
    cases ry
    exact ⟨_, _, rfl, rfl, PoE.here p hr (hf _ _ _ _ _ _)⟩
  · exact p.elim
def opSub : OpU := opI (fun _ _ => true) fun i j => .int (i - j)
def opMod : OpU := opI (fun _ j => decide (0 < j)) fun i j => .int (i % j)
/-- together below a million bits -/
def mulOk (i j : Int) : Bool := decide (i.natAbs.log2 + j.natAbs.log2 < 1000000)
def opMul : OpU := opI mulOk fun i j => .int (i * j)
def divOk (_ j : Int) : Bool := decide (0 < j) && decide (j.natAbs.log2 < 9000)
def opDiv : OpU := opI divOk fun i j => .int (i / j)
def powOk (i j : Int) : Bool := decide (0 ≤ j) && decide (j ≤ 1000) && decide (i.natAbs < 1000)
def opPow : OpU := opI powOk fun i j => .int (i ^ j.toNat)
def opLt : OpU := opI (fun _ _ => true) fun i j => .bl (decide (i < j))
def opLe : OpU := opI (fun _ _ => true) fun i j => .bl (decide (i ≤ j))
def opGt : OpU := opI (fun _ _ => true) fun i j => .bl (decide (j < i))
def opGe : OpU := opI (fun _ _ => true) fun i j => .bl (decide (j ≤ i))
section
variable {C : Ct} {X : Cx} {W : WX} {k : Nat} {a b : Expr} {fa fb : EM} {pos : Pos}
theorem ie_sub (ha : PE X a (tM C W fa)) (hb : PE X b (tM C W fb)) : PE X (.BinOp a .Sub b pos) (tM C W (mBin opSub fa fb)) := ie_op op_sub (vop_I0 fun _ _ _ _ _ _ => .int _) ha hb
theorem ie_mod (ha : PE X a (tM C W fa)) (hb : PE X b (tM C W fb)) : PE X (.BinOp a .Mod b pos) (tM C W (mBin opMod fa fb)) := ie_op op_mod (vop_I (fun _ _ h => of_decide_eq_true h) fun _ _ _ _ _ _ => .int _) ha hb
theorem ie_mul (ha : PE X a (tM C W fa)) (hb : PE X b (tM C W fb)) : PE X (.BinOp a .Mult b pos) (tM C W (mBin opMul fa fb)) := ie_op op_mulW (vop_I (fun i j h => (of_decide_eq_true (show decide (i.natAbs.log2 + j.natAbs.log2 < 1000000) = true from h) : i.natAbs.log2 + j.natAbs.log2 < 1000000)) fun _ _ _ _ _ _ => .int _) ha hb
theorem ie_div (ha : PE X a (tM C W fa)) (hb : PE X b (tM C W fb)) : PE X (.BinOp a .FloorDiv b pos) (tM C W (mBin opDiv fa fb)) := ie_op op_fdivW (vop_I (fun _ _ h => by
  unfold divOk at h
  rw [Bool.and_eq_true, decide_eq_true_eq, decide_eq_true_eq] at h
  exact h) fun _ _ _ _ _ _ => .int _) ha hb
theorem ie_pow (ha : PE X a (tM C W fa)) (hb : PE X b (tM C W fb)) : PE X (.BinOp a .Pow b pos) (tM C W (mBin opPow fa fb)) := ie_op op_pow (vop_I (fun i j h => by
  unfold powOk at h
  rw [Bool.and_eq_true, Bool.and_eq_true, decide_eq_true_eq, decide_eq_true_eq, decide_eq_true_eq] at h
  refine ⟨h.1.1, by omega, ?_⟩
  have : (1000 : Nat) < 2 ^ 64 := by decide
  omega) fun _ _ _ _ _ _ => .int _) ha hb
theorem ie_lt (ha : PE X a (tM C W fa)) (hb : PE X b (tM C W fb)) : PE X (.Compare a [.Lt] [b] pos) (tM C W (mBin opLt fa fb)) := ie_cmp op_lt (vop_I0 fun _ _ _ _ _ _ => .bl _) ha hb (nomark _)
theorem ie_le (ha : PE X a (tM C W fa)) (hb : PE X b (tM C W fb)) : PE X (.Compare a [.LtE] [b] pos) (tM C W (mBin opLe fa fb)) := ie_cmp op_le (vop_I0 fun _ _ _ _ _ _ => .bl _) ha hb (nomark _)
theorem ie_gt (ha : PE X a (tM C W fa)) (hb : PE X b (tM C W fb)) : PE X (.Compare a [.Gt] [b] pos) (tM C W (mBin opGt fa fb)) := ie_cmp op_gt (vop_I0 fun _ _ _ _ _ _ => .bl _) ha hb (nomark _)
theorem ie_ge (ha : PE X a (tM C W fa)) (hb : PE X b (tM C W fb)) : PE X (.Compare a [.GtE] [b] pos) (tM C W (mBin opGe fa fb)) := ie_cmp op_ge (vop_I0 fun _ _ _ _ _ _ => .bl _) ha hb (nomark _)
end

/-! ### + -/
def bnd : Nat := 100000
theorem bnd_le {n : Nat} (h : n ≤ bnd) : n ≤ sizeLine := Nat.le_trans h (by decide)
theorem bnd_lt {n : Nat} (h : n < bnd) : n < sizeLine := Nat.lt_of_lt_of_le h (by decide)
def opAdd : OpU := fun x y h => match x, y with
  | .int i, .int j => .ok (.int (i + j)) h
  | .str i, .str j => if i.length + j.length ≤ bnd then .ok (.str (i ++ j)) h else .bad
  | .tup xs, .tup ys => if xs.isEmpty then .bad else if xs.length + ys.length ≤ bnd then .ok (.tup (xs ++ ys)) h else .bad
  | .ref a, .ref b => match h[a]?, h[b]? with
    | some (.lst xs), some (.lst ys) => if xs.length + ys.length ≤ bnd then .ok (.ref h.length) (h ++ [.lst (xs ++ ys)]) else .bad
    | _, _ => .bad
  | _, _ => .bad
def rAdd (K : PySem.W.Frag) : R2 := fun x y H Q => ((rI0 (fun i j => .int (i + j)) x y H Q ∨ (∃ i j, x = .str i ∧ y = .str j ∧ i.length + j.length ≤ sizeLine ∧ Q (.str (i ++ j)) H)) ∨ rCat x y H Q) ∨ rCatT K x y H Q
theorem op_addA {X : Cx} : OpR X (binaryOp .Add) (rAdd X.K) := ((op_add.or op_add_str).or op_cat).or op_catT
theorem vop_add {C : Ct} : VOp C (rAdd C.K) opAdd := by
  intro E H m h x y ux uy Q hr rx ry p
  unfold opAdd at p
  split at p
  · cases rx
    cases ry
    exact .inl (.inl (.inl ⟨_, _, rfl, rfl, PoE.here p hr (.int _)⟩))
  · split at p
    · rename_i hh
      cases rx
      cases ry
      exact .inl (.inl (.inr ⟨_, _, rfl, rfl, bnd_le hh, p.here hr (.str _)⟩))
    · exact p.elim
  · split at p
    · exact p.elim
    · rename_i hne
      split at p
      · rename_i hh
        cases rx with
        | tup ha ra =>
          cases ry with
          | tup hb rb =>
            rename_i xs ys a vs b ws
            have l1 := ra.length
            have l2 := rb.length
            refine .inr ⟨_, _, _, _, rfl, rfl, SqT.of ha, SqT.of hb, ?_, bnd_le (by rw [l1, l2]; exact hh), ?_, ?_⟩
            · intro z
              subst z
              cases xs with
              | nil => exact hne rfl
              | cons _ _ => simp at l1
            · intro z
              subst z
              cases ys with
              | nil =>
                rw [List.append_nil] at p
                exact p.here hr (.tup ha ra)
              | cons _ _ => simp at l2
            · exact fun _ q hq => p.newT hr (ra.append rb) hq
      · exact p.elim
  · split at p
    · rename_i xs ys e1 e2
      split at p
      · rename_i hh
        cases rx with
        | ref hn =>
          cases ry with
          | ref hn2 =>
            obtain ⟨vs, ha, ra⟩ := hr.lst hn e1
            obtain ⟨ws, hb, rb⟩ := hr.lst hn2 e2
            exact .inl (.inr ⟨_, _, vs, ws, rfl, rfl, ha, hb, bnd_le (by rw [ra.length, rb.length]; exact hh), fun q hq => p.newL hr (ra.append rb) hq⟩)
      · exact p.elim
    · exact p.elim
  · exact p.elim
theorem ie_add {C : Ct} {X : Cx} {W : WX} {k : Nat} {a b : Expr} {fa fb : EM} {pos : Pos} (o : XOk C X W k) (ha : PE X a (tM C W fa)) (hb : PE X b (tM C W fb)) : PE X (.BinOp a .Add b pos) (tM C W (mBin opAdd fa fb)) :=
  ie_op (by have := op_addA (X := X); rw [o.K] at this; exact this) vop_add ha hb

/-! ### == -/
def eqS : U → U → Option Bool
  | .int i, .int j => some (decide (i = j))
  | .str i, .str j => some (decide (i = j))
  | .bl i, .bl j => some (decide (i = j))
  | _, _ => none
def eqU (h : Os) (x y : U) : Option Bool := match eqS x y with
  | some b => some b
  | none => match x, y with
    | .ref a, .ref b => match h[a]?, h[b]? with
      | some (.dic ks), some (.dic ls) => match toKs h ks, toKs h ls with
        | some ds, some es => some (ds.length == es.length && hitsD es ds)
        | _, _ => none
      | _, _ => match toD 60 h x, toD 60 h y with
        | some d, some e => some (PyData.eqv d e)
        | _, _ => none
    | _, _ => match toD 60 h x, toD 60 h y with
      | some d, some e => some (PyData.eqv d e)
      | _, _ => none
def opEq : OpU := fun x y h => match eqU h x y with
  | some b => .ok (.bl b) h
  | none => .bad
def opNe : OpU := fun x y h => match eqU h x y with
  | some b => .ok (.bl (!b)) h
  | none => .bad
def rEqA (K : PySem.W.Frag) : R2 := fun x y H Q => (rEq x y H Q ∨ rEqD K x y H Q) ∨ rEqKD K x y H Q
def rNeA (K : PySem.W.Frag) : R2 := fun x y H Q => (rNe x y H Q ∨ rNeD K x y H Q) ∨ rNeKD K x y H Q
theorem eqU_ok {C : Ct} {H : Hp} {m : List Addr} {h : Os} {x y : V} {ux uy : U} {r : Bool} (hr : HR C H m h) (rx : RU C.K C.mg H m x ux) (ry : RU C.K C.mg H m y uy) (e : eqU h ux uy = some r) :
    (scal x y = true ∧ decide (x = y) = r) ∨ (∃ d e, Dp C.K H x d ∧ Dp C.K H y e ∧ SeqAt.shaped d = true ∧ SeqAt.shaped e = true ∧ PyData.eqv d e = r) ∨
      ∃ a b es fs ds ks, x = .ref a ∧ y = .ref b ∧ H a = some (.dK es) ∧ H b = some (.dK fs) ∧ DKs C.K H es ds ∧ DKs C.K H fs ks ∧ (ds.length == ks.length && hitsD ks ds) = r := by
  have data : ∀ {d e : PyData}, toD 60 h ux = some d → toD 60 h uy = some e → PyData.eqv d e = r → ∃ d e, Dp C.K H x d ∧ Dp C.K H y e ∧ SeqAt.shaped d = true ∧ SeqAt.shaped e = true ∧ PyData.eqv d e = r := fun {d e} e1 e2 e3 => by
    obtain ⟨a1, a2, a3⟩ := toD_ok hr 60 ux x d e1 rx
    obtain ⟨b1, b2, b3⟩ := toD_ok hr 60 uy y e e2 ry
    refine ⟨d, e, a1, b1, ?_, ?_, e3⟩
    · unfold SeqAt.shaped
      rw [a2, decide_eq_true (show d.depth ≤ 64 by omega)]; rfl
    · unfold SeqAt.shaped
      rw [b2, decide_eq_true (show e.depth ≤ 64 by omega)]; rfl
  unfold eqU at e
  split at e
  · rename_i b hb
    cases e
    unfold eqS at hb
    split at hb
    · cases hb
      cases rx
      cases ry
      exact .inl ⟨rfl, by simp⟩
    · cases hb
      cases rx
      cases ry
      exact .inl ⟨rfl, by simp⟩
    · cases hb
      cases rx
      cases ry
      exact .inl ⟨rfl, by simp⟩
    · cases hb
  · split at e
    · split at e
      · rename_i ks ls e1 e2
        split at e
        · rename_i ds es e3 e4
          cases e
          cases rx with
          | ref hn =>
            cases ry with
            | ref hn2 =>
              obtain ⟨es1, ha, ra⟩ := hr.dic hn e1
              obtain ⟨es2, hb, rb⟩ := hr.dic hn2 e2
              exact .inr (.inr ⟨_, _, es1, es2, ds, es, rfl, rfl, ha, hb, toKs_ok hr _ _ _ e3 ra, toKs_ok hr _ _ _ e4 rb, rfl⟩)
        · cases e
      · split at e
        · rename_i d e' e1 e2
          cases e
          exact .inr (.inl (data e1 e2 rfl))
        · cases e
    · split at e
      · rename_i d e' e1 e2
        cases e
        exact .inr (.inl (data e1 e2 rfl))
      · cases e
theorem vop_eq {C : Ct} : VOp C (rEqA C.K) opEq := by
  intro E H m h x y ux uy Q hr rx ry p
  unfold opEq at p
  split at p
  · rename_i b hb
    have q := p.here hr (.bl b)
    rcases eqU_ok hr rx ry hb with ⟨e1, e2⟩ | ⟨d, e, a1, a2, a3, a4, a5⟩ | ⟨a, b', es, fs, ds, ks, q1, q2, q3, q4, q5, q6, q7⟩
    · exact .inl (.inl ⟨e1, by rw [e2]; exact q⟩)
    · exact .inl (.inr ⟨d, e, a1, a2, a3, a4, by rw [a5]; exact q⟩)
    · exact .inr ⟨a, b', es, fs, ds, ks, q1, q2, q3, q4, q5, q6, by rw [q7]; exact q⟩
  · exact p.elim
theorem vop_ne {C : Ct} : VOp C (rNeA C.K) opNe := by
  intro E H m h x y ux uy Q hr rx ry p
  unfold opNe at p
  split at p
  · rename_i b hb
    have q := p.here hr (.bl (!b))
    rcases eqU_ok hr rx ry hb with ⟨e1, e2⟩ | ⟨d, e, a1, a2, a3, a4, a5⟩ | ⟨a, b', es, fs, ds, ks, q1, q2, q3, q4, q5, q6, q7⟩
    · exact .inl (.inl ⟨e1, by rw [e2]; exact q⟩)
    · exact .inl (.inr ⟨d, e, a1, a2, a3, a4, by rw [a5]; exact q⟩)
    · exact .inr ⟨a, b', es, fs, ds, ks, q1, q2, q3, q4, q5, q6, by rw [q7]; exact q⟩
  · exact p.elim
section
variable {C : Ct} {X : Cx} {W : WX} {k : Nat} {a b : Expr} {fa fb : EM} {pos : Pos}
theorem ie_eq (o : XOk C X W k) (ha : PE X a (tM C W fa)) (hb : PE X b (tM C W fb)) : PE X (.Compare a [.Eq] [b] pos) (tM C W (mBin opEq fa fb)) :=
  ie_cmp (r := rEqA C.K) (by have := (op_eq.or (op_eqD o.hu)).or (op_eqKD (X := X) o.hu); rw [o.K] at this; exact this) vop_eq ha hb (nomark _)
theorem ie_ne (o : XOk C X W k) (ha : PE X a (tM C W fa)) (hb : PE X b (tM C W fb)) : PE X (.Compare a [.NotEq] [b] pos) (tM C W (mBin opNe fa fb)) :=
  ie_cmp (r := rNeA C.K) (by have := (op_ne.or (op_neD o.hu)).or (op_neKD (X := X) o.hu); rw [o.K] at this; exact this) vop_ne ha hb (nomark _)
end
end SD
namespace SD
open PySem PySem.Spec PyProof.Rows L2

/-! ### dicts -/
section
variable {κ : Type} [DecidableEq κ]
def lookU (kvs : List (κ × U)) (k : κ) : Option U := (kvs.find? fun p => decide (p.1 = k)).map (·.2)
def putU (kvs : List (κ × U)) (k : κ) (u : U) : List (κ × U) := if kvs.any (fun p => decide (p.1 = k)) then kvs.map (fun p => if p.1 = k then (p.1, u) else p) else kvs ++ [(k, u)]
variable {K : PySem.W.Frag} {mg : Str → Option Value} {H : Hp} {m : List Addr}
theorem RKs.look {es : List (κ × V)} {fs : List (κ × U)} (r : RKs K mg H m es fs) (k : κ) : (valV es k = none ∧ lookU fs k = none) ∨ ∃ v u, valV es k = some v ∧ lookU fs k = some u ∧ RU K mg H m v u := by
  induction r with
  | nil => exact .inl ⟨rfl, rfl⟩
  | @cons k' v u es fs h r ih =>
    by_cases e : k' = k
    · subst e
      exact .inr ⟨v, u, valV_pos rfl, by simp [lookU], h⟩
    · rcases ih with ⟨q1, q2⟩ | ⟨v', d', q1, q2, q⟩
      · refine .inl ⟨(valV_neg e).trans q1, ?_⟩
        rw [← q2]
        simp [lookU, List.find?_cons, e]
      · refine .inr ⟨v', d', (valV_neg e).trans q1, ?_, q⟩
        rw [← q2]
        simp [lookU, List.find?_cons, e]
theorem RKs.keys {es : List (κ × V)} {fs : List (κ × U)} (r : RKs K mg H m es fs) : es.map (·.1) = fs.map (·.1) := by
  induction r with
  | nil => rfl
  | cons h r ih => simp [ih]
theorem RKs.any {es : List (κ × V)} {fs : List (κ × U)} (r : RKs K mg H m es fs) (k : κ) : es.any (fun p => decide (p.1 = k)) = fs.any (fun p => decide (p.1 = k)) := by
  induction r with
  | nil => rfl
  | cons h r ih => simp [List.any_cons, ih]
theorem RKs.repl {es : List (κ × V)} {fs : List (κ × U)} (r : RKs K mg H m es fs) (k : κ) {v : V} {u : U} (h : RU K mg H m v u) : RKs K mg H m (es.map fun p => if p.1 = k then (p.1, v) else p) (fs.map fun p => if p.1 = k then (p.1, u) else p) := by
  induction r with
  | nil => exact .nil
  | @cons k' v' u' es fs h' r ih =>
    rw [List.map_cons, List.map_cons]
    by_cases e : k' = k
    · rw [if_pos e, if_pos e]
      exact .cons h ih
    · rw [if_neg e, if_neg e]
      exact .cons h' ih
theorem RKs.snoc {es : List (κ × V)} {fs : List (κ × U)} (r : RKs K mg H m es fs) (k : κ) {v : V} {u : U} (h : RU K mg H m v u) : RKs K mg H m (es ++ [(k, v)]) (fs ++ [(k, u)]) := by
  induction r with
  | nil => exact .cons h .nil
  | cons h' r ih => exact .cons h' ih
theorem RKs.put {es : List (κ × V)} {fs : List (κ × U)} (r : RKs K mg H m es fs) (k : κ) {v : V} {u : U} (h : RU K mg H m v u) : RKs K mg H m (putK es k v) (putU fs k u) := by
  unfold putK putU
  rw [r.any k]
  split
  · exact r.repl k h
  · exact r.snoc k h
end
def keyOf : U → Option Key
  | .int i => some (.inl i)
  | .str x => some (.inr x)
  | _ => none
def keysOf : List U → Option (List Key)
  | [] => some []
  | u :: us => match keyOf u, keysOf us with
    | some k, some ks => some (k :: ks)
    | _, _ => none
section
variable {K : PySem.W.Frag} {mg : Str → Option Value} {H : Hp} {m : List Addr}
theorem keyOf_ok {v : V} {u : U} {k : Key} (r : RU K mg H m v u) (e : keyOf u = some k) : v = kV k := by
  cases u with
  | int i => cases e; cases r; rfl
  | str i => cases e; cases r; rfl
  | _ => cases e
theorem keysOf_ok : ∀ {us : List U} {vs : List V} {ks : List Key}, RUs K mg H m vs us → keysOf us = some ks → vs = ks.map kV
  | [], _, _, r, e => by cases r; cases e; rfl
  | u :: us, _, ks, r, e => by
    cases r with
    | cons r1 r2 =>
      rw [keysOf] at e
      cases e1 : keyOf u with
      | none => rw [e1] at e; cases e
      | some k =>
        cases e2 : keysOf us with
        | none => rw [e1, e2] at e; cases e
        | some ks' =>
          rw [e1, e2] at e
          cases e
          rw [keyOf_ok r1 e1, keysOf_ok r2 e2]
          rfl
end
/-- what a dict tells of a key: none, if it is no dict or no such key -/
def dGet (h : Os) (n : Nat) (u : U) : Option (Option U) := match h[n]? with
  | some (.dic kvs) => (keyOf u).map fun k => lookU kvs k
  | some (.diT kvs) => match u with
    | .tup us => (keysOf us).map fun k => lookU kvs k
    | _ => none
  | _ => none
theorem dGet_ok {C : Ct} {H : Hp} {m : List Addr} {h : Os} {n : Nat} {a : Addr} {u : U} {y : V} {r : Option U} (hr : HR C H m h) (hn : m[n]? = some a) (ry : RU C.K C.mg H m y u) (e : dGet h n u = some r) :
    ∃ o, DGet H a y o ∧ ((o = none ∧ r = none) ∨ ∃ v w, o = some v ∧ r = some w ∧ RU C.K C.mg H m v w) := by
  unfold dGet at e
  split at e
  · rename_i kvs ho
    obtain ⟨k, e1, e2⟩ := Option.map_eq_some_iff.mp e
    obtain ⟨es, ha, ra⟩ := hr.dic hn ho
    have ey := keyOf_ok ry e1
    subst ey
    refine ⟨_, DGet.k ha, ?_⟩
    rcases ra.look k with ⟨q1, q2⟩ | ⟨v, w, q1, q2, q⟩
    · exact .inl ⟨q1, by rw [← e2, q2]⟩
    · exact .inr ⟨v, w, q1, by rw [← e2, q2], q⟩
  · rename_i kvs ho
    split at e
    · rename_i us
      obtain ⟨k, e1, e2⟩ := Option.map_eq_some_iff.mp e
      obtain ⟨es, ha, ra⟩ := hr.diT hn ho
      cases ry with
      | tup hb rb =>
        rw [keysOf_ok rb e1] at hb
        refine ⟨_, DGet.t ha hb, ?_⟩
        rcases ra.look k with ⟨q1, q2⟩ | ⟨v, w, q1, q2, q⟩
        · exact .inl ⟨q1, by rw [← e2, q2]⟩
        · exact .inr ⟨v, w, q1, by rw [← e2, q2], q⟩
    · cases e
  · cases e

/-! ### o[i] -/
def opIx : OpU := fun x y h => match x, y with
  | .tup xs, .int i => match atI xs i with
    | some u => .ok u h
    | none => .bad
  | .fls xs, .int i => match atI xs i with
    | some u => .ok u h
    | none => .bad
  | .str z, .int i => if z.length ≤ bnd then match atI z.cps.toList i with
    | some c => .ok (.str ⟨#[c]⟩) h
    | none => .bad else .bad
  | .ref n, y => match h[n]? with
    | some (.lst xs) => match y with
      | .int i => match atI xs i with
        | some u => .ok u h
        | none => .bad
      | _ => .bad
    | _ => match dGet h n y with
      | some (some u) => .ok u h
      | _ => .bad
  | _, _ => .bad
def rIxD : R2 := fun x y H Q => ∃ a v, x = .ref a ∧ DGet H a y (some v) ∧ Q v H
theorem ix_dict {X : Cx} (hu : X.A.units + 1 < cLine) : IxR X rIxD := by
  intro value slice pins s σ H x y v u Q I rx ry h hs
  obtain ⟨a, z, rfl, g, q⟩ := h
  obtain rfl : v = Value.ref a := rx
  exact tail_any (dict_typeIs I g) PySem.F.slot_dict_getitem.lookup (d_getItem hu I g ry fun w' s3 I3 rw' => ⟨z, H, I3, rw', q⟩) hs
def rIxA (K : PySem.W.Frag) : R2 := fun x y H Q => rIx K x y H Q ∨ rIxD x y H Q
theorem atI_ok {C : Ct} {H : Hp} {m : List Addr} {vs : List V} {us : List U} {i : Int} {u : U} (r : RUs C.K C.mg H m vs us) (e : atI us i = some u) : ∃ v, atI vs i = some v ∧ RU C.K C.mg H m v u := by
  unfold atI at e ⊢
  obtain ⟨j, e1, e2⟩ := Option.bind_eq_some_iff.mp e
  obtain ⟨v, e3, r3⟩ := r.get e2
  refine ⟨v, ?_, r3⟩
  rw [r.length, e1]
  exact e3
theorem vop_ix {C : Ct} : VOp C (rIxA C.K) opIx := by
  intro E H m h x y ux uy Q hr rx ry p
  unfold opIx at p
  split at p
  · split at p
    · rename_i u e
      cases rx with
      | tup ha ra =>
        cases ry
        obtain ⟨v, e1, r1⟩ := atI_ok ra e
        exact .inl (.inr (.inl ⟨_, _, _, v, rfl, rfl, SqT.of ha, e1, p.here hr r1⟩))
    · exact p.elim
  · split at p
    · rename_i u e
      cases rx with
      | fls ha ra =>
        cases ry
        obtain ⟨v, e1, r1⟩ := atI_ok ra e
        exact .inl (.inl ⟨_, _, _, v, rfl, rfl, ha.sq, e1, p.here hr r1⟩)
    · exact p.elim
  · split at p
    · rename_i hz
      split at p
      · rename_i c e
        cases rx
        cases ry
        exact .inl (.inr (.inr ⟨_, _, c, rfl, rfl, bnd_le hz, e, p.here hr (.str _)⟩))
      · exact p.elim
    · exact p.elim
  · cases rx with
    | ref hn =>
      split at p
      · rename_i xs ho
        split at p
        · split at p
          · rename_i u e
            cases ry
            obtain ⟨vs, ha, ra⟩ := hr.lst hn ho
            obtain ⟨v, e1, r1⟩ := atI_ok ra e
            exact .inl (.inl ⟨_, _, _, v, rfl, rfl, SqL.of ha, e1, p.here hr r1⟩)
          · exact p.elim
        · exact p.elim
      · split at p
        · rename_i u e
          obtain ⟨o, g, q⟩ := dGet_ok hr hn ry e
          rcases q with ⟨_, q⟩ | ⟨v, w, q1, q2, r⟩
          · cases q
          · subst q1
            cases q2
            exact .inr ⟨_, v, rfl, g, p.here hr r⟩
        · exact p.elim
  · exact p.elim
theorem ie_sub_ {C : Ct} {X : Cx} {W : WX} {k : Nat} {a b : Expr} {fa fb : EM} {pos : Pos} (o : XOk C X W k) (ha : PE X a (tM C W fa)) (hb : PE X b (tM C W fb)) (hs : PlainIx b) : PE X (.Subscript a b pos) (tM C W (mBin opIx fa fb)) :=
  ie_ix (r := rIxA C.K) (by have := ix_seq.or (ix_dict (X := X) o.hu1); rw [o.K] at this; exact this) vop_ix ha hb hs

/-! ### in -/
def opIn : OpU := fun x y h => match y with
  | .ref n => match dGet h n x with
    | some r => .ok (.bl r.isSome) h
    | none => .bad
  | _ => .bad
def opNotIn : OpU := fun x y h => match y with
  | .ref n => match dGet h n x with
    | some r => .ok (.bl (!r.isSome)) h
    | none => .bad
  | _ => .bad
def rInD : R2 := fun y x H Q => ∃ a o, x = .ref a ∧ DGet H a y o ∧ Q (.bl o.isSome) H
def rNotInD : R2 := fun y x H Q => ∃ a o, x = .ref a ∧ DGet H a y o ∧ Q (.bl (!o.isSome)) H
theorem op_inD {X : Cx} (hu : X.A.units + 1 < cLine) : OpR X (compareOp .In) rInD := by
  intro pins s σ H x y v u Q I rx ry h
  obtain ⟨a, o, rfl, g, q⟩ := h
  obtain rfl : u = Value.ref a := ry
  exact d_in hu I g rx fun s3 I3 => ⟨.bl o.isSome, H, I3, rfl, q⟩
theorem op_notInD {X : Cx} (hu : X.A.units + 1 < cLine) : OpR X (compareOp .NotIn) rNotInD := by
  intro pins s σ H x y v u Q I rx ry h
  obtain ⟨a, o, rfl, g, q⟩ := h
  obtain rfl : u = Value.ref a := ry
  exact d_notIn hu I g rx fun s3 I3 => ⟨.bl (!o.isSome), H, I3, rfl, q⟩
theorem vop_in {C : Ct} : VOp C rInD opIn := by
  intro E H m h x y ux uy Q hr rx ry p
  unfold opIn at p
  split at p
  · split at p
    · rename_i n r e
      cases ry with
      | ref hn =>
        obtain ⟨o, g, q⟩ := dGet_ok hr hn rx e
        refine ⟨_, o, rfl, g, ?_⟩
        have z : o.isSome = r.isSome := by rcases q with ⟨q1, q2⟩ | ⟨v, w, q1, q2, _⟩ <;> rw [q1, q2] <;> rfl
        rw [z]
        exact p.here hr (.bl _)
    · exact p.elim
  · exact p.elim
theorem vop_notIn {C : Ct} : VOp C rNotInD opNotIn := by
  intro E H m h x y ux uy Q hr rx ry p
  unfold opNotIn at p
  split at p
  · split at p
    · rename_i n r e
      cases ry with
      | ref hn =>
        obtain ⟨o, g, q⟩ := dGet_ok hr hn rx e
        refine ⟨_, o, rfl, g, ?_⟩
        have z : o.isSome = r.isSome := by rcases q with ⟨q1, q2⟩ | ⟨v, w, q1, q2, _⟩ <;> rw [q1, q2] <;> rfl
        rw [z]
        exact p.here hr (.bl _)
    · exact p.elim
  · exact p.elim
section
variable {C : Ct} {X : Cx} {W : WX} {k : Nat} {a b : Expr} {fa fb : EM} {pos : Pos}
theorem ie_in (o : XOk C X W k) (ha : PE X a (tM C W fa)) (hb : PE X b (tM C W fb)) (hm : behindInMarks .In b = false := by rfl) : PE X (.Compare a [.In] [b] pos) (tM C W (mBin opIn fa fb)) := ie_cmp (op_inD o.hu1) vop_in ha hb hm
theorem ie_notIn (o : XOk C X W k) (ha : PE X a (tM C W fa)) (hb : PE X b (tM C W fb)) (hm : behindInMarks .NotIn b = false := by rfl) : PE X (.Compare a [.NotIn] [b] pos) (tM C W (mBin opNotIn fa fb)) := ie_cmp (op_notInD o.hu1) vop_notIn ha hb hm
end

/-! ### truth, tests -/
abbrev BM := En → Os → Rs Bool
def truth (h : Os) : U → Option Bool
  | .non => some false
  | .bl b => some b
  | .int i => some (i != 0)
  | .str x => if x.length ≤ bnd then some ((x.length : Int) != 0) else none
  | .tup xs => some (!xs.isEmpty)
  | .fls xs => some (!xs.isEmpty)
  | .ref n => match h[n]? with
    | some (.lst xs) => some (!xs.isEmpty)
    | some (.dic xs) => some (!xs.isEmpty)
    | _ => none
  | _ => none
theorem truth_ok {C : Ct} {H : Hp} {m : List Addr} {h : Os} {v : V} {u : U} {b : Bool} (hr : HR C H m h) (r : RU C.K C.mg H m v u) (e : truth h u = some b) : TruV C.K v H b := by
  have em : ∀ {vs : List V} {us : List U}, RUs C.K C.mg H m vs us → (!us.isEmpty) = (!vs.isEmpty) := fun r => by cases r <;> rfl
  unfold truth at e
  cases r with
  | non => cases e; rfl
  | bl b => cases e; rfl
  | int i => cases e; rfl
  | str x =>
    dsimp only at e
    split at e
    · rename_i hz
      cases e
      exact ⟨bnd_le hz, rfl⟩
    · cases e
  | ty n => cases e
  | gl h => cases e
  | tup ha ra => cases e; exact .inr (.inl ⟨_, SqT.of ha, em ra⟩)
  | fls ha ra => cases e; exact .inl ⟨_, ha.sq, em ra⟩
  | ref hn =>
    dsimp only at e
    split at e
    · rename_i xs ho
      cases e
      obtain ⟨vs, ha, ra⟩ := hr.lst hn ho
      exact .inl ⟨_, SqL.of ha, em ra⟩
    · rename_i xs ho
      cases e
      obtain ⟨vs, ha, ra⟩ := hr.dic hn ho
      exact .inr (.inr ⟨_, ha, by cases ra <;> rfl⟩)
    · cases e
def mTru (f : EM) : BM := fun ρ h => (f ρ h).bind fun u h1 => match truth h1 u with
  | some b => .ok b h1
  | none => .bad
def mAnd (f g : BM) : BM := fun ρ h => (f ρ h).bind fun b h1 => if b = true then g ρ h1 else .ok false h1
def mOr (f g : BM) : BM := fun ρ h => (f ρ h).bind fun b h1 => if b = true then .ok true h1 else g ρ h1
def mNot (f : BM) : BM := fun ρ h => (f ρ h).bind fun b h1 => .ok (!b) h1
section
variable {C : Ct} {X : Cx} {W : WX} {k : Nat} {a b : Expr} {fa fb : EM} {ga gb : BM} {pos : Pos} {rest : List Expr}
theorem tru_of {σ : L2.St} {H : Hp} {Q : Bool → Hp → Prop} (q : tMB C W (mTru fa) σ H Q) : tM C W fa σ H fun x H1 => ∃ k, TruV C.K x H1 k ∧ Q k H1 := by
  obtain ⟨m, ρ, h, s, p⟩ := q
  refine tM_thenB s p fun v H1 m1 u h1 x1 s1 r1 p1 => ?_
  cases e : truth h1 u with
  | none => rw [e] at p1; exact p1.elim
  | some b =>
    rw [e] at p1
    exact ⟨b, truth_ok s1.hr r1 e, p1 H1 m1 Ext.refl s1.hr⟩
theorem it_tru (o : XOk C X W k) (ha : PE X a (tM C W fa)) (he : ∀ whole, isTrue a X.env whole = (do let v ← whole; standAt a.pos; holding [v] (truthy v)) := by intro _; rfl) : PT X a (tMB C W (mTru fa)) :=
  (pt_truth ha he).imp fun σ H Q q => by rw [o.K]; exact tru_of q
/-- a comparison as a test -/
theorem it_cmp {o : CmpOp} {r : R2} {op : OpU} (ho : OpR X (compareOp o) r) (hv : VOp C r op) (hbl : ∀ x y h u h', op x y h = .ok u h' → ∃ b, u = .bl b) (ha : PE X a (tM C W fa)) (hb : PE X b (tM C W fb)) (hm : behindInMarks o b = false) :
    PT X (.Compare a [o] [b] pos) (tMB C W (mTru (mBin op fa fb))) := by
  refine (pt_cmpR ho ha hb hm).imp fun σ H Q q => ?_
  have q2 := tru_of q
  obtain ⟨m, ρ, h, s, p⟩ := q2
  refine tOp_of hv ⟨m, ρ, h, s, ?_⟩
  cases e : mBin op fa fb ρ h with
  | bad => rw [e] at p; exact p
  | exc c h1 => rw [e] at p; exact p
  | ok u h1 =>
    rw [e] at p
    intro v H' m' x' hr' r'
    obtain ⟨k, t, q⟩ := p v H' m' x' hr' r'
    have hu : ∃ b, u = .bl b := by
      unfold mBin at e
      cases e1 : fa ρ h with
      | bad => rw [e1] at e; cases e
      | exc c h1 => rw [e1] at e; cases e
      | ok u1 h2 =>
        rw [e1] at e
        have e' : ((fb ρ h2).bind fun y h2 => op u1 y h2) = .ok u h1 := e
        cases e2 : fb ρ h2 with
        | bad => rw [e2] at e'; cases e'
        | exc c h1 => rw [e2] at e'; cases e'
        | ok u3 h3 =>
          rw [e2] at e'
          exact hbl _ _ _ _ _ e'
    obtain ⟨b, rfl⟩ := hu
    cases r'
    have t' : k = b := t
    subst t'
    exact ⟨k, rfl, q⟩
theorem bl_I {c : Int → Int → Bool} {f : Int → Int → Bool} : ∀ x y h u h', opI c (fun i j => .bl (f i j)) x y h = .ok u h' → ∃ b, u = .bl b := by
  intro x y h u h' e
  unfold opI at e
  split at e
  · split at e
    · cases e; exact ⟨_, rfl⟩
    · cases e
  · cases e
theorem it_lt (ha : PE X a (tM C W fa)) (hb : PE X b (tM C W fb)) : PT X (.Compare a [.Lt] [b] pos) (tMB C W (mTru (mBin opLt fa fb))) := it_cmp op_lt (vop_I0 fun _ _ _ _ _ _ => .bl _) bl_I ha hb (nomark _)
theorem it_le (ha : PE X a (tM C W fa)) (hb : PE X b (tM C W fb)) : PT X (.Compare a [.LtE] [b] pos) (tMB C W (mTru (mBin opLe fa fb))) := it_cmp op_le (vop_I0 fun _ _ _ _ _ _ => .bl _) bl_I ha hb (nomark _)
theorem it_gt (ha : PE X a (tM C W fa)) (hb : PE X b (tM C W fb)) : PT X (.Compare a [.Gt] [b] pos) (tMB C W (mTru (mBin opGt fa fb))) := it_cmp op_gt (vop_I0 fun _ _ _ _ _ _ => .bl _) bl_I ha hb (nomark _)
theorem it_ge (ha : PE X a (tM C W fa)) (hb : PE X b (tM C W fb)) : PT X (.Compare a [.GtE] [b] pos) (tMB C W (mTru (mBin opGe fa fb))) := it_cmp op_ge (vop_I0 fun _ _ _ _ _ _ => .bl _) bl_I ha hb (nomark _)
theorem bl_eq : ∀ x y h u h', opEq x y h = .ok u h' → ∃ b, u = .bl b := by
  intro x y h u h' e
  unfold opEq at e
  split at e
  · cases e; exact ⟨_, rfl⟩
  · cases e
theorem bl_ne : ∀ x y h u h', opNe x y h = .ok u h' → ∃ b, u = .bl b := by
  intro x y h u h' e
  unfold opNe at e
  split at e
  · cases e; exact ⟨_, rfl⟩
  · cases e
theorem bl_in : ∀ x y h u h', opIn x y h = .ok u h' → ∃ b, u = .bl b := by
  intro x y h u h' e
  unfold opIn at e
  split at e
  · split at e
    · cases e; exact ⟨_, rfl⟩
    · cases e
  · cases e
theorem bl_notIn : ∀ x y h u h', opNotIn x y h = .ok u h' → ∃ b, u = .bl b := by
  intro x y h u h' e
  unfold opNotIn at e
  split at e
  · split at e
    · cases e; exact ⟨_, rfl⟩
    · cases e
  · cases e
theorem it_eq (o : XOk C X W k) (ha : PE X a (tM C W fa)) (hb : PE X b (tM C W fb)) : PT X (.Compare a [.Eq] [b] pos) (tMB C W (mTru (mBin opEq fa fb))) :=
  it_cmp (r := rEqA C.K) (by have := (op_eq.or (op_eqD o.hu)).or (op_eqKD (X := X) o.hu); rw [o.K] at this; exact this) vop_eq bl_eq ha hb (nomark _)
theorem it_ne (o : XOk C X W k) (ha : PE X a (tM C W fa)) (hb : PE X b (tM C W fb)) : PT X (.Compare a [.NotEq] [b] pos) (tMB C W (mTru (mBin opNe fa fb))) :=
  it_cmp (r := rNeA C.K) (by have := (op_ne.or (op_neD o.hu)).or (op_neKD (X := X) o.hu); rw [o.K] at this; exact this) vop_ne bl_ne ha hb (nomark _)
theorem it_in (o : XOk C X W k) (ha : PE X a (tM C W fa)) (hb : PE X b (tM C W fb)) (hm : behindInMarks .In b = false := by rfl) : PT X (.Compare a [.In] [b] pos) (tMB C W (mTru (mBin opIn fa fb))) := it_cmp (op_inD o.hu1) vop_in bl_in ha hb hm
theorem it_notIn (o : XOk C X W k) (ha : PE X a (tM C W fa)) (hb : PE X b (tM C W fb)) (hm : behindInMarks .NotIn b = false := by rfl) : PT X (.Compare a [.NotIn] [b] pos) (tMB C W (mTru (mBin opNotIn fa fb))) := it_cmp (op_notInD o.hu1) vop_notIn bl_notIn ha hb hm
theorem iw_and (ha : PT X a (tMB C W ga)) (hb : PW X (.BoolOp .And (b :: rest) pos) (tMB C W gb)) : PW X (.BoolOp .And (a :: b :: rest) pos) (tMB C W (mAnd ga gb)) := by
  refine ⟨fun wh pins s σ H Q I q => (pw_and ha hb).run wh pins s σ H Q I ?_⟩
  obtain ⟨m, ρ, h, s, p⟩ := q
  refine tMB_thenB s p fun b H1 m1 h1 x1 s1 p1 => ?_
  cases b with
  | true => exact ⟨m1, ρ, h1, s1, p1⟩
  | false => exact p1 H1 m1 Ext.refl s1.hr
theorem iw_or (ha : PT X a (tMB C W ga)) (hb : PW X (.BoolOp .Or (b :: rest) pos) (tMB C W gb)) : PW X (.BoolOp .Or (a :: b :: rest) pos) (tMB C W (mOr ga gb)) := by
  refine ⟨fun wh pins s σ H Q I q => (pw_or ha hb).run wh pins s σ H Q I ?_⟩
  obtain ⟨m, ρ, h, s, p⟩ := q
  refine tMB_thenB s p fun b H1 m1 h1 x1 s1 p1 => ?_
  cases b with
  | true => exact p1 H1 m1 Ext.refl s1.hr
  | false => exact ⟨m1, ρ, h1, s1, p1⟩
theorem it_not (ha : PT X a (tMB C W ga)) : PT X (.UnaryOp .Not a pos) (tMB C W (mNot ga)) := by
  refine (pt_not ha).imp fun σ H Q q => ?_
  obtain ⟨m, ρ, h, s, p⟩ := q
  exact tMB_thenB s p fun b H1 m1 h1 x1 s1 p1 => p1 H1 m1 Ext.refl s1.hr
end
/-! ### and, or, not as values -/
def mAndV (f g : EM) : EM := fun ρ h => (f ρ h).bind fun u h1 => match truth h1 u with
  | some b => if b = true then g ρ h1 else .ok u h1
  | none => .bad
def mOrV (f g : EM) : EM := fun ρ h => (f ρ h).bind fun u h1 => match truth h1 u with
  | some b => if b = true then .ok u h1 else g ρ h1
  | none => .bad
def mNotV (f : EM) : EM := fun ρ h => (f ρ h).bind fun u h1 => match truth h1 u with
  | some b => .ok (.bl (!b)) h1
  | none => .bad
def mIf (t : BM) (f g : EM) : EM := fun ρ h => (t ρ h).bind fun b h1 => if b = true then f ρ h1 else g ρ h1
section
variable {C : Ct} {X : Cx} {W : WX} {k : Nat} {a b c : Expr} {fa fb : EM} {ga gb : BM} {pos : Pos} {rest : List Expr}
theorem ie_and1 (ha : PE X a (tM C W fa)) : PE X (.BoolOp .And [a] pos) (tM C W fa) := pe_one ha
theorem ie_or1 (ha : PE X a (tM C W fa)) : PE X (.BoolOp .Or [a] pos) (tM C W fa) := pe_one ha
theorem ie_andV (o : XOk C X W k) (ha : PE X a (tM C W fa)) (hb : PE X (.BoolOp .And (b :: rest) pos) (tM C W fb)) : PE X (.BoolOp .And (a :: b :: rest) pos) (tM C W (mAndV fa fb)) := by
  refine (pe_andT ha hb).imp fun σ H Q q => ?_
  obtain ⟨m, ρ, h, s, p⟩ := q
  refine tM_then s p fun v H1 m1 u h1 x1 s1 r1 p1 => ?_
  cases e : truth h1 u with
  | none => rw [e] at p1; exact p1.elim
  | some b =>
    rw [e] at p1
    refine ⟨b, by rw [o.K]; exact truth_ok s1.hr r1 e, ?_⟩
    cases b with
    | true => exact ⟨m1, ρ, h1, s1, p1⟩
    | false => exact PoE.here (u := u) p1 s1.hr r1
theorem ie_orV (o : XOk C X W k) (ha : PE X a (tM C W fa)) (hb : PE X (.BoolOp .Or (b :: rest) pos) (tM C W fb)) : PE X (.BoolOp .Or (a :: b :: rest) pos) (tM C W (mOrV fa fb)) := by
  refine (pe_orT ha hb).imp fun σ H Q q => ?_
  obtain ⟨m, ρ, h, s, p⟩ := q
  refine tM_then s p fun v H1 m1 u h1 x1 s1 r1 p1 => ?_
  cases e : truth h1 u with
  | none => rw [e] at p1; exact p1.elim
  | some b =>
    rw [e] at p1
    refine ⟨b, by rw [o.K]; exact truth_ok s1.hr r1 e, ?_⟩
    cases b with
    | true => exact PoE.here (u := u) p1 s1.hr r1
    | false => exact ⟨m1, ρ, h1, s1, p1⟩
theorem ie_notV (o : XOk C X W k) (ha : PE X a (tM C W fa)) : PE X (.UnaryOp .Not a pos) (tM C W (mNotV fa)) := by
  refine (pe_notT ha).imp fun σ H Q q => ?_
  obtain ⟨m, ρ, h, s, p⟩ := q
  refine tM_then s p fun v H1 m1 u h1 x1 s1 r1 p1 => ?_
  cases e : truth h1 u with
  | none => rw [e] at p1; exact p1.elim
  | some b =>
    rw [e] at p1
    exact ⟨b, by rw [o.K]; exact truth_ok s1.hr r1 e, PoE.here (u := .bl (!b)) p1 s1.hr (.bl _)⟩
theorem ie_if (hc : PT X c (tMB C W ga)) (ha : PE X a (tM C W fa)) (hb : PE X b (tM C W fb)) : PE X (.IfExp c a b pos) (tM C W (mIf ga fa fb)) := by
  refine (pe_ifExp hc ha hb).imp fun σ H Q q => ?_
  obtain ⟨m, ρ, h, s, p⟩ := q
  refine tMB_then s p fun b H1 m1 h1 x1 s1 p1 => ?_
  cases b with
  | true => exact ⟨m1, ρ, h1, s1, p1⟩
  | false => exact ⟨m1, ρ, h1, s1, p1⟩
end

/-! ### arguments, displays -/
def mNil : AM := fun _ h => .ok [] h
def mCons (f : EM) (g : AM) : AM := fun ρ h => (f ρ h).bind fun u h1 => (g ρ h1).bind fun us h2 => .ok (u :: us) h2
def mTup (g : AM) : EM := fun ρ h => (g ρ h).bind fun us h1 => if us.length ≤ bnd then .ok (.tup us) h1 else .bad
def mLst (g : AM) : EM := fun ρ h => (g ρ h).bind fun us h1 => if us.length ≤ bnd then .ok (.ref h1.length) (h1 ++ [.lst us]) else .bad
section
variable {C : Ct} {X : Cx} {W : WX} {k : Nat} {e : Expr} {es : List Expr} {f : EM} {g : AM} {pos : Pos}
theorem ia_nil : PA X [] (tMA C W mNil) := pa_nil.imp fun σ H Q ⟨m, ρ, h, s, p⟩ => p [] H m Ext.refl s.hr .nil
theorem ia_cons (ha : PE X e (tM C W f)) (hr : PA X es (tMA C W g)) (hs : starEach (e :: es) X.env = (false, eval e X.env) :: starEach es X.env := by rfl) : PA X (e :: es) (tMA C W (mCons f g)) := by
  refine (pa_cons ha hr hs).imp fun σ H Q ⟨m, ρ, h, s, p⟩ => ?_
  refine tM_thenA s p fun v H1 m1 u h1 x1 s1 r1 p1 => ?_
  refine tMA_thenA s1 p1 fun vs H2 m2 us h2 x2 s2 r2 p2 => ?_
  exact p2 (v :: vs) H2 m2 Ext.refl s2.hr (.cons (r1.mono x2) r2)
theorem ie_tup {x1} (h : PA X es (tMA C W g)) : PE X (.Tuple es x1 pos) (tM C W (mTup g)) := by
  refine (pe_tup h).imp fun σ H Q ⟨m, ρ, h, s, p⟩ => ?_
  refine tMA_then s p fun vs H1 m1 us h1 x1 s1 r1 p1 => ?_
  split at p1
  · rename_i hz
    exact ⟨bnd_le (by rw [r1.length]; exact hz), fun q hq => p1.newT s1.hr r1 hq⟩
  · exact p1.elim
theorem ie_lst (h : PA X es (tMA C W g)) : PE X (.List es pos) (tM C W (mLst g)) := by
  refine (pe_lst h).imp fun σ H Q ⟨m, ρ, h, s, p⟩ => ?_
  refine tMA_then s p fun vs H1 m1 us h1 x1 s1 r1 p1 => ?_
  split at p1
  · rename_i hz
    exact ⟨bnd_le (by rw [r1.length]; exact hz), fun q hq => p1.newL s1.hr r1 hq⟩
  · exact p1.elim
/-- {}, keys to be ints and texts; keys to be tuples -/
def mDicK : EM := fun _ h => .ok (.ref h.length) (h ++ [.dic []])
def mDicT : EM := fun _ h => .ok (.ref h.length) (h ++ [.diT []])
theorem ie_dicK : PE X (.Dict [] [] pos) (tM C W mDicK) := pe_dnewK.imp fun σ H Q ⟨m, ρ, h, s, p⟩ => fun q hq => PoE.newO p s.hr hq ⟨[], upd_same, .nil⟩
theorem ie_dicT : PE X (.Dict [] [] pos) (tM C W mDicT) := pe_dnewT.imp fun σ H Q ⟨m, ρ, h, s, p⟩ => fun q hq => PoE.newO p s.hr hq ⟨[], upd_same, .nil⟩
end
end SD
namespace SD
open PySem PySem.Spec PyProof.Rows L2

/-! ### a dict written out -/
def mPairs : List (EM × EM) → En → Os → Rs (List (U × U))
  | [], _, h => .ok [] h
  | (a, b) :: r, ρ, h => (a ρ h).bind fun x h1 => (b ρ h1).bind fun y h2 => (mPairs r ρ h2).bind fun ps h3 => .ok ((x, y) :: ps) h3
def keysU : List (U × U) → Option (List (Key × U))
  | [] => some []
  | (x, y) :: r => match keyOf x, keysU r with
    | some k, some ks => some ((k, y) :: ks)
    | _, _ => none
def mergeU (kvs more : List (Key × U)) : List (Key × U) := more.foldl (fun acc kv => putU acc kv.1 kv.2) kvs
def mDisp (ps : List (EM × EM)) : EM := fun ρ h => (mPairs ps ρ h).bind fun qs h1 => match keysU qs with
  | some ks => if ks.length ≤ 15 then .ok (.ref h1.length) (h1 ++ [.dic (mergeU [] ks)]) else .bad
  | none => .bad
inductive RPs (K : PySem.W.Frag) (mg : Str → Option Value) (H : Hp) (m : List Addr) : List (V × V) → List (U × U) → Prop
  | nil : RPs K mg H m [] []
  | cons {x y : V} {u w : U} {vs : List (V × V)} {us : List (U × U)} : RU K mg H m x u → RU K mg H m y w → RPs K mg H m vs us → RPs K mg H m ((x, y) :: vs) ((u, w) :: us)
theorem keysU_ok {K : PySem.W.Frag} {mg : Str → Option Value} {H : Hp} {m : List Addr} {vs : List (V × V)} {us : List (U × U)} (r : RPs K mg H m vs us) : ∀ {ks : List (Key × U)}, keysU us = some ks → ∃ es : List (Key × V), vs = es.map (fun kv => (kV kv.1, kv.2)) ∧ RKs K mg H m es ks := by
  induction r with
  | nil => intro ks e; cases e; exact ⟨[], rfl, .nil⟩
  | cons h1 h2 r ih =>
    intro ks e
    rw [keysU] at e
    split at e
    · rename_i k ks' e1 e2
      cases e
      obtain ⟨es, q1, q2⟩ := ih e2
      exact ⟨(k, _) :: es, by rw [q1, keyOf_ok h1 e1]; rfl, .cons h2 q2⟩
    · cases e
theorem RKs.merge {K : PySem.W.Frag} {mg : Str → Option Value} {H : Hp} {m : List Addr} {es2 : List (Key × V)} {fs2 : List (Key × U)} (r2 : RKs K mg H m es2 fs2) : ∀ {es : List (Key × V)} {fs : List (Key × U)}, RKs K mg H m es fs → RKs K mg H m (mergeK es es2) (mergeU fs fs2) := by
  induction r2 with
  | nil => intro es fs r; exact r
  | cons h r2 ih => intro es fs r; exact ih (r.put _ h)
theorem RPs.mono {K : PySem.W.Frag} {mg : Str → Option Value} {T : List (Addr × Str)} {H H' : Hp} {m m' : List Addr} {vs : List (V × V)} {us : List (U × U)} (x : Ext T H m H' m') (r : RPs K mg H m vs us) : RPs K mg H' m' vs us := by
  induction r with
  | nil => exact .nil
  | cons h1 h2 r ih => exact .cons (h1.mono x) (h2.mono x) ih
def PoP (C : Ct) (E : XK) (H : Hp) (m : List Addr) (r : Rs (List (U × U))) (Q : List (V × V) → Hp → Prop) : Prop := match r with
  | .ok us h => ∀ vs H' m', Ext C.T H m H' m' → HR C H' m' h → RPs C.K C.mg H' m' vs us → Q vs H'
  | .exc c h => ∀ H' m' cl, Ext C.T H m H' m' → HR C H' m' h → C.mg c = some cl → E cl none H'
  | .bad => False
theorem PoP.mono {C : Ct} {E : XK} {H H' : Hp} {m m' : List Addr} {r : Rs (List (U × U))} {Q : List (V × V) → Hp → Prop} (p : PoP C E H m r Q) (x : Ext C.T H m H' m') : PoP C E H' m' r Q := by
  cases r with
  | ok u h => exact fun v H2 m2 y => p v H2 m2 (x.trans y)
  | exc c h => exact fun H2 m2 cl y => p H2 m2 cl (x.trans y)
  | bad => exact p
section
variable {C : Ct} {X : Cx} {W : WX} {k : Nat} {pos : Pos}
theorem tM_thenP {f : EM} {g : U → Os → Rs (List (U × U))} {σ : L2.St} {ρ : En} {H : Hp} {m : List Addr} {h : Os} {Q : List (V × V) → Hp → Prop} {R : V → Hp → Prop} (s : Sta C H m σ ρ h) (p : PoP C (WE W σ) H m ((f ρ h).bind g) Q)
    (k : ∀ v H1 m1 u h1, Ext C.T H m H1 m1 → Sta C H1 m1 σ ρ h1 → RU C.K C.mg H1 m1 v u → PoP C (WE W σ) H1 m1 (g u h1) Q → R v H1) : tM C W f σ H R := by
  refine ⟨m, ρ, h, s, ?_⟩
  cases e : f ρ h with
  | ok u h1 =>
    rw [e] at p
    exact fun v H1 m1 x r ru => k v H1 m1 u h1 x (s.go x r) ru (PoP.mono (r := g u h1) p x)
  | exc c h1 => rw [e] at p; exact p
  | bad => rw [e] at p; exact p
theorem pairs_of : ∀ (ps : List (EM × EM)) {σ : L2.St} {ρ : En} {H : Hp} {m : List Addr} {h : Os} {R : List (V × V) → Hp → Prop}, Sta C H m σ ρ h → PoP C (WE W σ) H m (mPairs ps ρ h) R → tPairs (ps.map fun p => (tM C W p.1, tM C W p.2)) σ H R
  | [], σ, ρ, H, m, h, R, s, p => p [] H m Ext.refl s.hr .nil
  | (a, b) :: r, σ, ρ, H, m, h, R, s, p => by
    show tM C W a σ H fun x H1 => tM C W b σ H1 fun y H2 => tPairs _ σ H2 fun ps H3 => R ((x, y) :: ps) H3
    refine tM_thenP s p fun v H1 m1 u h1 x1 s1 r1 p1 => ?_
    refine tM_thenP s1 p1 fun v2 H2 m2 u2 h2 x2 s2 r2 p2 => ?_
    refine pairs_of r s2 ?_
    cases e : mPairs r ρ h2 with
    | bad => rw [e] at p2; exact p2
    | exc c h3 => rw [e] at p2; exact p2
    | ok us h3 =>
      rw [e] at p2
      exact fun vs H3 m3 x3 hr3 r3 => p2 _ H3 m3 x3 hr3 (.cons ((r1.mono x2).mono x3) (r2.mono x3) r3)
/-- a new thing, made while a row was told: it gets its number at the end -/
theorem late_new {C : Ct} {H H1 : Hp} {m m1 : List Addr} {h1 : Os} {q : Addr} {o0 o1 : HO} {oo : O} {E : XK} {Q : VK} (hr0 : ∃ h, HR C H m h) (hq : H q = none) (x1 : Ext C.T (upd H q o0) m H1 m1) (hr : HR C H1 m1 h1) (e1 : H1 q = some o1) (mu : isMut o1 = true) (o2 : HO)
    (ro : RO C (upd H1 q o2) (m1 ++ [q]) q oo) (p : PoE C E H m (.ok (.ref h1.length) (h1 ++ [oo])) Q) : Q (.ref q) (upd H1 q o2) := by
  have nq : q ∉ m := let ⟨h, hr0⟩ := hr0; hr0.fresh hq
  have nq1 : q ∉ m1 := fun z => by
    rcases x1.new q z with z | z
    · exact nq z
    · rw [upd_same] at z; cases z
  have x2 : Ext C.T H m (upd H1 q o2) m1 := Ext.mut ((Ext.fresh hq).trans x1) hq e1 mu nq1
  have hr2 : HR C (upd H1 q o2) m1 h1 := hr.side nq1 e1 mu
  have hr3 : HR C (upd H1 q o2) (m1 ++ [q]) (h1 ++ [oo]) := by
    refine ⟨by simp [hr2.len], ?_, fun n a u f1 f2 => ?_⟩
    · rw [List.nodup_append]
      refine ⟨hr2.nd, by simp, fun a ha b hb => ?_⟩
      simp at hb
      subst hb
      intro z
      subst z
      exact nq1 ha
    · by_cases hk : n < m1.length
      · rw [List.getElem?_append_left hk] at f1
        rw [List.getElem?_append_left (by rw [← hr2.len]; exact hk)] at f2
        exact (hr2.obj n a u f1 f2).mono0 ⟨⟨[q], rfl⟩, fun _ _ h => h, fun _ _ _ h => h, fun _ _ h => h⟩ rfl
      · rw [List.getElem?_append_right (by omega)] at f1
        rw [List.getElem?_append_right (by rw [← hr2.len]; omega)] at f2
        have hz : n - m1.length = 0 := by
          have := (List.getElem?_eq_some_iff.mp f1).1
          simp at this
          omega
        rw [hz] at f1
        rw [← hr2.len, hz] at f2
        simp at f1 f2
        subst f1
        subst f2
        exact ro
  exact p (.ref q) _ (m1 ++ [q]) (x2.grow hq) hr3 (.ref (by rw [← hr2.len, List.getElem?_append_right (Nat.le_refl _)]; simp))
theorem ie_disp {ps : List (EM × EM)} {keys : List (Option Expr)} {values : List Expr} (h : PPs X pos keys values (ps.map fun p => (tM C W p.1, tM C W p.2))) (hall : keys.all (·.isSome) = true := by rfl) (hl : keys.length = values.length := by rfl) (h0 : keys ≠ [] := by exact fun z => nomatch z)
    (h15 : keys.length ≤ 15 := by decide) : PE X (.Dict keys values pos) (tM C W (mDisp ps)) := by
  refine (pe_disp h hall hl h0 h15).imp fun σ H Q ⟨m, ρ, h, s, p⟩ => fun q hq => ?_
  have x0 : Ext C.T H m (upd H q (.dK [])) m := Ext.fresh hq
  have s0 : Sta C (upd H q (.dK [])) m σ ρ h := s.go x0 (s.hr.freshO hq)
  refine pairs_of ps s0 ?_
  unfold mDisp at p
  cases e : mPairs ps ρ h with
  | bad => rw [e] at p; exact p
  | exc c h1 =>
    rw [e] at p
    exact fun H1 m1 cl x1 => p H1 m1 cl (x0.trans x1)
  | ok us h1 =>
    rw [e] at p
    intro vs H1 m1 x1 hr1 r1
    have nq : q ∉ m := s.hr.fresh hq
    have e1 : H1 q = some (.dK []) := x1.oth q _ upd_same nq (fun _ z => nomatch z)
    have p : PoE C (WE W σ) H m (match keysU us with
      | some ks => if ks.length ≤ 15 then .ok (.ref h1.length) (h1 ++ [.dic (mergeU [] ks)]) else .bad
      | none => .bad) Q := p
    cases ek : keysU us with
    | none => rw [ek] at p; exact p.elim
    | some ks =>
      rw [ek] at p
      dsimp only at p
      split at p
      · rename_i hz
        obtain ⟨es, ev, rk⟩ := keysU_ok r1 ek
        refine ⟨e1, es, ev, by rw [rk.length]; exact hz, ?_⟩
        refine late_new (oo := .dic (mergeU [] ks)) ⟨h, s.hr⟩ hq x1 hr1 e1 rfl (.dK (mergeK [] es)) ⟨_, upd_same, ?_⟩ p
        refine RKs.merge (rk.mono0 (Ex0.trans (Ex0.side e1 rfl) ⟨⟨[q], rfl⟩, fun _ _ h => h, fun _ _ _ h => h, fun _ _ h => h⟩)) .nil
      · exact p.elim
end

/-! ### slices -/
def cutU (xs : List U) (lo hi : Option Int) : List U := (xs.drop (HT.sIx xs.length 0 lo)).take (HT.sIx xs.length xs.length hi - HT.sIx xs.length 0 lo)
abbrev OM := En → Os → Rs (Option Int)
def mNoP : OM := fun _ h => .ok none h
def mPart (f : EM) : OM := fun ρ h => (f ρ h).bind fun u h1 => match u with
  | .int i => .ok (some i) h1
  | _ => .bad
def opSl (x : U) (lo hi : Option Int) (h : Os) : Rs U := match x with
  | .ref n => match h[n]? with
    | some (.lst xs) => .ok (.ref h.length) (h ++ [.lst (cutU xs lo hi)])
    | _ => .bad
  | .fls xs => .ok (.ref h.length) (h ++ [.lst (cutU xs lo hi)])
  | .tup xs => if HT.sIx xs.length 0 lo = 0 ∧ HT.sIx xs.length xs.length hi = xs.length then .ok (.tup xs) h else .ok (.tup (cutU xs lo hi)) h
  | .str z => if z.length ≤ bnd then .ok (.str (cutS z lo hi)) h else .bad
  | _ => .bad
def mSl (f : EM) (a b : OM) : EM := fun ρ h => (f ρ h).bind fun x h1 => (a ρ h1).bind fun lo h2 => (b ρ h2).bind fun hi h3 => opSl x lo hi h3
def PoO (C : Ct) (E : XK) (H : Hp) (m : List Addr) (r : Rs (Option Int)) (Q : Option Int → Hp → Prop) : Prop := match r with
  | .ok o h => ∀ H' m', Ext C.T H m H' m' → HR C H' m' h → Q o H'
  | .exc c h => ∀ H' m' cl, Ext C.T H m H' m' → HR C H' m' h → C.mg c = some cl → E cl none H'
  | .bad => False
def tMO (C : Ct) (W : WX) (f : OM) : TO := fun σ H Q => ∃ m ρ h, Sta C H m σ ρ h ∧ PoO C (WE W σ) H m (f ρ h) Q
theorem PO.imp {X : Cx} {e : Option Expr} {t t' : TO} (h : PO X e t) (k : ∀ σ H Q, t' σ H Q → t σ H Q) : PO X e t' := ⟨fun pins s σ H Q I q => h.run pins s σ H Q I (k σ H Q q)⟩
theorem RUs.cut {K : PySem.W.Frag} {mg : Str → Option Value} {H : Hp} {m : List Addr} {vs : List V} {us : List U} (r : RUs K mg H m vs us) (lo hi : Option Int) : RUs K mg H m (cutV vs lo hi) (cutU us lo hi) := by
  unfold cutV cutU
  rw [r.length]
  exact (r.drop _).take _
section
variable {C : Ct} {X : Cx} {W : WX} {k : Nat} {pos p2 : Pos} {e : Expr} {lo hi : Option Expr} {f : EM} {a b : OM}
theorem io_none : PO X none (tMO C W mNoP) := PO.imp po_none fun σ H Q ⟨m, ρ, h, s, p⟩ => p H m Ext.refl s.hr
theorem io_some (he : PE X e (tM C W f)) : PO X (some e) (tMO C W (mPart f)) := by
  refine PO.imp (po_some he) fun σ H Q ⟨m, ρ, h, s, p⟩ => ?_
  refine ⟨m, ρ, h, s, ?_⟩
  unfold mPart at p
  cases e : f ρ h with
  | bad => rw [e] at p; exact p
  | exc c h1 => rw [e] at p; exact p
  | ok u h1 =>
    rw [e] at p
    intro v H' m' x' hr' r'
    cases u with
    | int i => cases r'; exact ⟨i, rfl, p H' m' x' hr'⟩
    | _ => exact (show False from p).elim
theorem tMO_then {g : Option Int → Os → Rs U} {σ : L2.St} {ρ : En} {H : Hp} {m : List Addr} {h : Os} {Q : VK} {R : Option Int → Hp → Prop} (s : Sta C H m σ ρ h) (p : PoE C (WE W σ) H m ((a ρ h).bind g) Q)
    (k : ∀ o H1 m1 h1, Ext C.T H m H1 m1 → Sta C H1 m1 σ ρ h1 → PoE C (WE W σ) H1 m1 (g o h1) Q → R o H1) : tMO C W a σ H R := by
  refine ⟨m, ρ, h, s, ?_⟩
  cases e : a ρ h with
  | ok u h1 =>
    rw [e] at p
    exact fun H1 m1 x r => k u H1 m1 h1 x (s.go x r) (PoE.mono (r := g u h1) p x)
  | exc c h1 => rw [e] at p; exact p
  | bad => rw [e] at p; exact p
/-- no tuple is cut whole -/
def opSl' (x : U) (lo hi : Option Int) (h : Os) : Rs U := match x with
  | .tup xs => if HT.sIx xs.length 0 lo = 0 ∧ HT.sIx xs.length xs.length hi = xs.length then .bad else .ok (.tup (cutU xs lo hi)) h
  | _ => opSl x lo hi h
def mSl' (f : EM) (a b : OM) : EM := fun ρ h => (f ρ h).bind fun x h1 => (a ρ h1).bind fun lo h2 => (b ρ h2).bind fun hi h3 => opSl' x lo hi h3
theorem ie_slice (o : XOk C X W k) (he : PE X e (tM C W f)) (hl : PO X lo (tMO C W a)) (hu : PO X hi (tMO C W b)) : PE X (.Subscript e (.Slice lo hi none p2) pos) (tM C W (mSl' f a b)) := by
  refine (pe_slice (sl_list.or (sl_tup.or sl_str)) he hl hu).imp fun σ H Q ⟨m, ρ, h, s, p⟩ => ?_
  refine tM_then s p fun v H1 m1 u h1 x1 s1 r1 p1 => ?_
  refine tMO_then s1 p1 fun l H2 m2 h2 x2 s2 p2 => ?_
  refine tMO_then s2 p2 fun r H3 m3 h3 x3 s3 p3 => ?_
  have r3 := (r1.mono x2).mono x3
  rw [o.K]
  cases r3 with
  | tup ha ra =>
    have p3 : PoE C (WE W σ) H3 m3 (if HT.sIx _ 0 l = 0 ∧ HT.sIx _ _ r = _ then .bad else .ok (.tup (cutU _ l r)) h3) Q := p3
    split at p3
    · exact p3.elim
    · rename_i hn
      exact .inr (.inl ⟨_, _, rfl, SqT.of ha, by rw [ra.length]; exact hn, fun q hq => p3.newT s3.hr (ra.cut l r) hq⟩)
  | fls ha ra =>
    have p3 : PoE C (WE W σ) H3 m3 (.ok (.ref h3.length) (h3 ++ [.lst (cutU _ l r)])) Q := p3
    exact .inl ⟨_, _, rfl, ha.sq, fun q hq => p3.newL s3.hr (ra.cut l r) hq⟩
  | @ref n a hn =>
    have p3 : PoE C (WE W σ) H3 m3 (match h3[n]? with
      | some (.lst xs) => .ok (.ref h3.length) (h3 ++ [.lst (cutU xs l r)])
      | _ => .bad) Q := p3
    split at p3
    · rename_i xs ho
      obtain ⟨vs, ha, ra⟩ := s3.hr.lst hn ho
      exact .inl ⟨_, _, rfl, SqL.of ha, fun q hq => p3.newL s3.hr (ra.cut l r) hq⟩
    · exact p3.elim
  | str z =>
    have p3 : PoE C (WE W σ) H3 m3 (if z.length ≤ bnd then .ok (.str (cutS z l r)) h3 else .bad) Q := p3
    split at p3
    · rename_i hz
      exact .inr (.inr ⟨z, rfl, bnd_le hz, p3.here s3.hr (.str _)⟩)
    · exact p3.elim
  | non => exact (show False from p3).elim
  | bl b => exact (show False from p3).elim
  | int b => exact (show False from p3).elim
  | ty b => exact (show False from p3).elim
  | gl b => exact (show False from p3).elim
end
end SD
namespace SD
open PySem PySem.Spec PyProof.Rows L2

/-! ### calls by values -/
abbrev FnU := List U → Os → Rs U
def VCall (C : Ct) (r : List V → Hp → VK → Prop) (f : FnU) : Prop := ∀ (E : XK) (H : Hp) (m : List Addr) (h : Os) (vs : List V) (us : List U) (Q : VK), HR C H m h → RUs C.K C.mg H m vs us → PoE C E H m (f us h) Q → r vs H Q
def mCB (f : FnU) (g : AM) : EM := fun ρ h => (g ρ h).bind fun us h1 => f us h1
section
variable {C : Ct} {X : Cx} {W : WX} {k : Nat} {e : Expr} {es : List Expr} {g : AM} {f : FnU} {p pos : Pos} {x : Str} {id T : String} {r : List V → Hp → VK → Prop}
theorem tCB_of {σ : L2.St} {H : Hp} {Q : VK} (hv : VCall C r f) (q : tM C W (mCB f g) σ H Q) : tCB r (tMA C W g) σ H Q := by
  obtain ⟨m, ρ, h, s, p⟩ := q
  exact tMA_then s p fun vs H1 m1 us h1 x1 s1 r1 p1 => hv _ H1 m1 h1 vs us Q s1.hr r1 p1
theorem ie_callB (hc : CallR X (.builtin id) r) (hv : VCall C r f) (hg : Gl X x) (hm : X.mg x = none) (hb : bootBuiltins x = some (.builtin id)) (ha : PA X (e :: es) (tMA C W g)) (hn : x ≠ "__name__" := by decide) (hdb : (x == ("__debug__" : Str)) = false := by decide)
    (he : starEach (e :: es) X.env = (false, eval e X.env) :: starEach es X.env := by rfl) (hpl : (backTo pos (starEach es X.env)).any (·.1) = false := by rfl) : PE X (.Call (.Name x p) (e :: es) [] pos) (tM C W (mCB f g)) :=
  (pe_callB hc hg hm hb ha hn hdb he hpl).imp fun _ _ _ q => tCB_of hv q
theorem ie_callTy (hc : CallR X (.type T) r) (hv : VCall C r f) (hg : Gl X x) (hm : X.mg x = none) (hb : bootBuiltins x = some (.type T)) (ha : PA X (e :: es) (tMA C W g)) (hn : x ≠ "__name__" := by decide) (hdb : (x == ("__debug__" : Str)) = false := by decide)
    (he : starEach (e :: es) X.env = (false, eval e X.env) :: starEach es X.env := by rfl) (hpl : (backTo pos (starEach es X.env)).any (·.1) = false := by rfl) : PE X (.Call (.Name x p) (e :: es) [] pos) (tM C W (mCB f g)) :=
  (pe_callTy hc hg hm hb ha hn hdb he hpl).imp fun _ _ _ q => tCB_of hv q
end

/-! ### len -/
def bLen : FnU := fun us h => match us with
  | [.str x] => if x.length ≤ bnd then .ok (.int x.length) h else .bad
  | [.tup xs] => .ok (.int xs.length) h
  | [.fls xs] => .ok (.int xs.length) h
  | [.ref n] => match h[n]? with
    | some (.lst xs) => .ok (.int xs.length) h
    | some (.dic xs) => .ok (.int xs.length) h
    | _ => .bad
  | _ => .bad
def rLenA (K : PySem.W.Frag) : List V → Hp → VK → Prop := fun xs H Q => (∃ x n, xs = [x] ∧ LenV K x H n ∧ Q (.int n) H) ∨ (∃ a kvs, xs = [V.ref a] ∧ H a = some (.dK kvs) ∧ Q (.int kvs.length) H)
theorem RUs.one {K : PySem.W.Frag} {mg : Str → Option Value} {H : Hp} {m : List Addr} {vs : List V} {u : U} (r : RUs K mg H m vs [u]) : ∃ v, vs = [v] ∧ RU K mg H m v u := by
  cases r with
  | cons r1 r2 => cases r2; exact ⟨_, rfl, r1⟩
theorem RUs.two {K : PySem.W.Frag} {mg : Str → Option Value} {H : Hp} {m : List Addr} {vs : List V} {u w : U} (r : RUs K mg H m vs [u, w]) : ∃ v x, vs = [v, x] ∧ RU K mg H m v u ∧ RU K mg H m x w := by
  cases r with
  | cons r1 r2 => obtain ⟨x, rfl, r3⟩ := r2.one; exact ⟨_, _, rfl, r1, r3⟩
theorem vc_len {C : Ct} : VCall C (rLenA C.K) bLen := by
  intro E H m h vs us Q hr rv p
  unfold bLen at p
  split at p
  · split at p
    · rename_i x hz
      obtain ⟨v, rfl, r⟩ := rv.one
      cases r
      exact .inl ⟨_, x.length, rfl, ⟨bnd_le hz, rfl⟩, p.here hr (.int _)⟩
    · exact p.elim
  · obtain ⟨v, rfl, r⟩ := rv.one
    cases r with
    | tup ha ra => exact .inl ⟨_, _, rfl, .inr ⟨_, SqT.of ha, rfl⟩, PoE.here p hr (by rw [ra.length]; exact .int _)⟩
  · obtain ⟨v, rfl, r⟩ := rv.one
    cases r with
    | fls ha ra => exact .inl ⟨_, _, rfl, .inl ⟨_, ha.sq, rfl⟩, PoE.here p hr (by rw [ra.length]; exact .int _)⟩
  · obtain ⟨v, rfl, r⟩ := rv.one
    cases r with
    | ref hn =>
      split at p
      · rename_i xs ho
        obtain ⟨vs, ha, ra⟩ := hr.lst hn ho
        exact .inl ⟨_, _, rfl, .inl ⟨_, SqL.of ha, rfl⟩, p.here hr (by rw [ra.length]; exact .int _)⟩
      · rename_i xs ho
        obtain ⟨vs, ha, ra⟩ := hr.dic hn ho
        exact .inr ⟨_, _, rfl, ha, p.here hr (by rw [ra.length]; exact .int _)⟩
      · exact p.elim
  · exact p.elim

/-! ### isinstance of a built-in class -/
def tyName (h : Os) : U → Option String
  | .non => some "NoneType"
  | .bl _ => some "bool"
  | .int _ => some "int"
  | .str _ => some "str"
  | .tup _ => some "tuple"
  | .fls _ => some "list"
  | .ref n => match h[n]? with
    | some (.lst _) => some "list"
    | some (.dic _) => some "dict"
    | some (.diT _) => some "dict"
    | _ => none
  | _ => none
def tyNames : List String := ["NoneType", "bool", "int", "str", "tuple", "list", "dict"]
def clsNames : List String := ["bool", "int", "str", "tuple", "list", "dict"]
def isaT (a b : String) : Option Bool := if tyNames.contains a && clsNames.contains b then some (a == b || (a == "bool" && b == "int")) else none
theorem isaT_ok : ∀ a b r, isaT a b = some r → kitB a b = some r := by
  have all : ∀ a ∈ tyNames, ∀ b ∈ clsNames, kitB a b = some (a == b || (a == "bool" && b == "int")) := by decide +kernel
  intro a b r e
  unfold isaT at e
  split at e
  · rename_i hc
    rw [Bool.and_eq_true] at hc
    cases e
    exact all a (List.contains_iff_mem.mp hc.1) b (List.contains_iff_mem.mp hc.2)
  · cases e
def bIsa : FnU := fun us h => match us with
  | [u, .ty n] => match tyName h u with
    | some t => match isaT t n with
      | some b => .ok (.bl b) h
      | none => .bad
    | none => .bad
  | _ => .bad
theorem tyName_ok {C : Ct} {H : Hp} {m : List Addr} {h : Os} {v : V} {u : U} {t : String} (hr : HR C H m h) (r : RU C.K C.mg H m v u) (e : tyName h u = some t) : TyX C.K H v (.type t) := by
  cases r with
  | non => cases e; exact .base .non
  | bl b => cases e; exact .base (.bl b)
  | int b => cases e; exact .base (.int b)
  | str b => cases e; exact .base (.str b)
  | ty n => cases e
  | gl h => cases e
  | tup ha ra => cases e; exact .base (.tup ha)
  | fls ha ra =>
    cases e
    rcases ha with ⟨o, ha⟩ | ⟨o, its, n, h1, h2, h3⟩
    · exact .base (.frz ha)
    · exact .kList h1 h2
  | ref hn =>
    unfold tyName at e
    dsimp only at e
    split at e
    · rename_i xs ho
      cases e
      obtain ⟨vs, ha, ra⟩ := hr.lst hn ho
      exact .base (.lst ha)
    · rename_i xs ho
      cases e
      obtain ⟨vs, ha, ra⟩ := hr.dic hn ho
      exact .base (.dK ha)
    · rename_i xs ho
      cases e
      obtain ⟨vs, ha, ra⟩ := hr.diT hn ho
      exact .base (.dT ha)
    · cases e
theorem vc_isa {C : Ct} : VCall C (rIsi C.K) bIsa := by
  intro E H m h vs us Q hr rv p
  unfold bIsa at p
  split at p
  · rename_i u n
    split at p
    · rename_i t e1
      split at p
      · rename_i b e2
        obtain ⟨v, x, rfl, r1, r2⟩ := rv.two
        cases r2
        exact ⟨v, .ty n, .type t, .type n, b, rfl, .ty n, tyName_ok hr r1 e1, kit_ty (isaT_ok _ _ _ e2), p.here hr (.bl _)⟩
      · exact p.elim
    · exact p.elim
  · exact p.elim

/-! ### int, tuple, list, dict, all, any -/
def bInt : FnU := fun us h => match us with
  | [.int i] => .ok (.int i) h
  | [.bl b] => .ok (.int (if b then 1 else 0)) h
  | _ => .bad
theorem vc_int {C : Ct} : VCall C (fun xs H Q => (∃ i, xs = [.int i] ∧ Q (.int i) H) ∨ ∃ k, xs = [.bl k] ∧ Q (.int (if k then 1 else 0)) H) bInt := by
  intro E H m h vs us Q hr rv p
  unfold bInt at p
  split at p
  · obtain ⟨v, rfl, r⟩ := rv.one
    cases r
    exact .inl ⟨_, rfl, PoE.here p hr (.int _)⟩
  · obtain ⟨v, rfl, r⟩ := rv.one
    cases r
    exact .inr ⟨_, rfl, PoE.here p hr (.int _)⟩
  · exact p.elim
def bTuple : FnU := fun us h => match us with
  | [.tup xs] => .ok (.tup xs) h
  | [.fls xs] => .ok (.tup xs) h
  | [.ref n] => match h[n]? with
    | some (.lst xs) => .ok (.tup xs) h
    | _ => .bad
  | _ => .bad
theorem vc_tuple {C : Ct} : VCall C (fun xs H Q => ∃ p ys, xs = [.ref p] ∧ ((SqL C.K H p ys ∧ ∀ l, H l = none → Q (.ref l) (upd H l (.tup ys))) ∨ (SqT C.K H p ys ∧ Q (.ref p) H))) bTuple := by
  intro E H m h vs us Q hr rv p
  unfold bTuple at p
  split at p
  · obtain ⟨v, rfl, r⟩ := rv.one
    cases r with
    | tup ha ra => exact ⟨_, _, rfl, .inr ⟨SqT.of ha, PoE.here p hr (.tup ha ra)⟩⟩
  · obtain ⟨v, rfl, r⟩ := rv.one
    cases r with
    | fls ha ra => exact ⟨_, _, rfl, .inl ⟨ha.sq, fun q hq => p.newT hr ra hq⟩⟩
  · split at p
    · rename_i xs ho
      obtain ⟨v, rfl, r⟩ := rv.one
      cases r with
      | ref hn =>
        obtain ⟨vs, ha, ra⟩ := hr.lst hn ho
        exact ⟨_, _, rfl, .inl ⟨SqL.of ha, fun q hq => p.newT hr ra hq⟩⟩
    · exact p.elim
  · exact p.elim
def bList : FnU := fun us h => match us with
  | [.tup xs] => .ok (.ref h.length) (h ++ [.lst xs])
  | [.fls xs] => .ok (.ref h.length) (h ++ [.lst xs])
  | [.ref n] => match h[n]? with
    | some (.lst xs) => .ok (.ref h.length) (h ++ [.lst xs])
    | _ => .bad
  | _ => .bad
theorem vc_list {C : Ct} : VCall C (fun xs H Q => ∃ p ys, xs = [.ref p] ∧ (SqL C.K H p ys ∨ SqT C.K H p ys) ∧ ∀ l, H l = none → Q (.ref l) (upd H l (.lst ys))) bList := by
  intro E H m h vs us Q hr rv p
  unfold bList at p
  split at p
  · obtain ⟨v, rfl, r⟩ := rv.one
    cases r with
    | tup ha ra => exact ⟨_, _, rfl, .inr (SqT.of ha), fun q hq => p.newL hr ra hq⟩
  · obtain ⟨v, rfl, r⟩ := rv.one
    cases r with
    | fls ha ra => exact ⟨_, _, rfl, .inl ha.sq, fun q hq => p.newL hr ra hq⟩
  · split at p
    · rename_i xs ho
      obtain ⟨v, rfl, r⟩ := rv.one
      cases r with
      | ref hn =>
        obtain ⟨vs, ha, ra⟩ := hr.lst hn ho
        exact ⟨_, _, rfl, .inl (SqL.of ha), fun q hq => p.newL hr ra hq⟩
    · exact p.elim
  · exact p.elim
def bDict : FnU := fun us h => match us with
  | [.ref n] => match h[n]? with
    | some (.dic xs) => .ok (.ref h.length) (h ++ [.dic xs])
    | _ => .bad
  | _ => .bad
theorem vc_dict {C : Ct} : VCall C (fun xs H Q => ∃ (a : Addr) (kvs : List (Key × V)), xs = [.ref a] ∧ Rd H a (.dK kvs) ∧ ∀ p, H p = none → Q (.ref p) (upd H p (.dK kvs))) bDict := by
  intro E H m h vs us Q hr rv p
  unfold bDict at p
  split at p
  · split at p
    · rename_i n xs ho
      obtain ⟨v, rfl, r⟩ := rv.one
      cases r with
      | ref hn =>
        obtain ⟨es, ha, ra⟩ := hr.dic hn ho
        exact ⟨_, es, rfl, .inl ha, fun q hq => p.newO hr hq ⟨es, upd_same, ra.mono (Ext.more (T := C.T) hq)⟩⟩
    · exact p.elim
  · exact p.elim
def blsOf : List U → Option (List Bool)
  | [] => some []
  | .bl b :: us => (blsOf us).map (b :: ·)
  | _ => none
theorem blsOf_ok {K : PySem.W.Frag} {mg : Str → Option Value} {H : Hp} {m : List Addr} : ∀ {us : List U} {vs : List V} {bs : List Bool}, blsOf us = some bs → RUs K mg H m vs us → vs = bs.map V.bl
  | [], _, _, e, r => by cases r; cases e; rfl
  | u :: us, _, bs, e, r => by
    cases r with
    | cons r1 r2 =>
      cases u with
      | bl b =>
        rw [blsOf] at e
        obtain ⟨cs, e1, e2⟩ := Option.map_eq_some_iff.mp e
        cases r1
        subst e2
        rw [blsOf_ok e1 r2]
        rfl
      | _ => cases e
def bAll : FnU := fun us h => match us with
  | [.ref n] => match h[n]? with
    | some (.lst xs) => match blsOf xs with
      | some bs => .ok (.bl (bs.all id)) h
      | none => .bad
    | _ => .bad
  | _ => .bad
theorem vc_all {C : Ct} : VCall C (rAll C.K) bAll := by
  intro E H m h vs us Q hr rv p
  unfold bAll at p
  split at p
  · split at p
    · rename_i n xs ho
      split at p
      · rename_i bs e
        obtain ⟨v, rfl, r⟩ := rv.one
        cases r with
        | ref hn =>
          obtain ⟨es, ha, ra⟩ := hr.lst hn ho
          rw [blsOf_ok e ra] at ha
          exact ⟨_, bs, rfl, SqL.of ha, p.here hr (.bl _)⟩
      · exact p.elim
    · exact p.elim
  · exact p.elim
def bAny : FnU := fun us h => match us with
  | [.ref n] => match h[n]? with
    | some (.lst xs) => match blsOf xs with
      | some bs => .ok (.bl (bs.any id)) h
      | none => .bad
    | _ => .bad
  | _ => .bad
theorem vc_any {C : Ct} : VCall C (rAny C.K) bAny := by
  intro E H m h vs us Q hr rv p
  unfold bAny at p
  split at p
  · split at p
    · rename_i n xs ho
      split at p
      · rename_i bs e
        obtain ⟨v, rfl, r⟩ := rv.one
        cases r with
        | ref hn =>
          obtain ⟨es, ha, ra⟩ := hr.lst hn ho
          rw [blsOf_ok e ra] at ha
          exact ⟨_, bs, rfl, SqL.of ha, p.here hr (.bl _)⟩
      · exact p.elim
    · exact p.elim
  · exact p.elim
section
variable {C : Ct} {X : Cx} {W : WX} {k : Nat} {e : Expr} {es : List Expr} {g : AM} {p pos : Pos}
theorem ie_len (o : XOk C X W k) (hg : Gl X "len") (hm : X.mg "len" = none) (ha : PA X (e :: es) (tMA C W g)) (he : starEach (e :: es) X.env = (false, eval e X.env) :: starEach es X.env := by rfl) (hpl : (backTo pos (starEach es X.env)).any (·.1) = false := by rfl) :
    PE X (.Call (.Name "len" p) (e :: es) [] pos) (tM C W (mCB bLen g)) :=
  ie_callB (r := rLenA C.K) (by have := call_len.or (call_lenD (X := X)); rw [o.K] at this; exact this) vc_len hg hm (by decide +kernel) ha (by decide) (by decide) he hpl
theorem ie_isa (o : XOk C X W k) (hg : Gl X "isinstance") (hm : X.mg "isinstance" = none) (ha : PA X (e :: es) (tMA C W g)) (he : starEach (e :: es) X.env = (false, eval e X.env) :: starEach es X.env := by rfl) (hpl : (backTo pos (starEach es X.env)).any (·.1) = false := by rfl) :
    PE X (.Call (.Name "isinstance" p) (e :: es) [] pos) (tM C W (mCB bIsa g)) :=
  ie_callB (r := rIsi C.K) (by have := call_isi (X := X); rw [o.K] at this; exact this) vc_isa hg hm (by decide +kernel) ha (by decide) (by decide) he hpl
theorem ie_intC (o : XOk C X W k) (hg : Gl X "int") (hm : X.mg "int" = none) (ha : PA X (e :: es) (tMA C W g)) (he : starEach (e :: es) X.env = (false, eval e X.env) :: starEach es X.env := by rfl) (hpl : (backTo pos (starEach es X.env)).any (·.1) = false := by rfl) :
    PE X (.Call (.Name "int" p) (e :: es) [] pos) (tM C W (mCB bInt g)) := ie_callTy call_int1 vc_int hg hm (by decide +kernel) ha (by decide) (by decide) he hpl
theorem ie_tupleC (o : XOk C X W k) (hg : Gl X "tuple") (hm : X.mg "tuple" = none) (ha : PA X (e :: es) (tMA C W g)) (he : starEach (e :: es) X.env = (false, eval e X.env) :: starEach es X.env := by rfl) (hpl : (backTo pos (starEach es X.env)).any (·.1) = false := by rfl) :
    PE X (.Call (.Name "tuple" p) (e :: es) [] pos) (tM C W (mCB bTuple g)) := ie_callTy call_tuple_of (by rw [o.K]; exact vc_tuple) hg hm (by decide +kernel) ha (by decide) (by decide) he hpl
theorem ie_listC (o : XOk C X W k) (hg : Gl X "list") (hm : X.mg "list" = none) (ha : PA X (e :: es) (tMA C W g)) (he : starEach (e :: es) X.env = (false, eval e X.env) :: starEach es X.env := by rfl) (hpl : (backTo pos (starEach es X.env)).any (·.1) = false := by rfl) :
    PE X (.Call (.Name "list" p) (e :: es) [] pos) (tM C W (mCB bList g)) := ie_callTy call_list_of (by rw [o.K]; exact vc_list) hg hm (by decide +kernel) ha (by decide) (by decide) he hpl
theorem ie_dictC (o : XOk C X W k) (hg : Gl X "dict") (hm : X.mg "dict" = none) (ha : PA X (e :: es) (tMA C W g)) (he : starEach (e :: es) X.env = (false, eval e X.env) :: starEach es X.env := by rfl) (hpl : (backTo pos (starEach es X.env)).any (·.1) = false := by rfl) :
    PE X (.Call (.Name "dict" p) (e :: es) [] pos) (tM C W (mCB bDict g)) := ie_callTy call_dictD vc_dict hg hm (by decide +kernel) ha (by decide) (by decide) he hpl
theorem ie_all (o : XOk C X W k) (hg : Gl X "all") (hm : X.mg "all" = none) (ha : PA X (e :: es) (tMA C W g)) (he : starEach (e :: es) X.env = (false, eval e X.env) :: starEach es X.env := by rfl) (hpl : (backTo pos (starEach es X.env)).any (·.1) = false := by rfl) :
    PE X (.Call (.Name "all" p) (e :: es) [] pos) (tM C W (mCB bAll g)) := ie_callB (r := rAll C.K) (by have := cr_all (X := X) o.calm; rw [o.K] at this; exact this) vc_all hg hm (by decide +kernel) ha (by decide) (by decide) he hpl
theorem ie_any (o : XOk C X W k) (hg : Gl X "any") (hm : X.mg "any" = none) (ha : PA X (e :: es) (tMA C W g)) (he : starEach (e :: es) X.env = (false, eval e X.env) :: starEach es X.env := by rfl) (hpl : (backTo pos (starEach es X.env)).any (·.1) = false := by rfl) :
    PE X (.Call (.Name "any" p) (e :: es) [] pos) (tM C W (mCB bAny g)) := ie_callB (r := rAny C.K) (by have := cr_any (X := X) o.calm; rw [o.K] at this; exact this) vc_any hg hm (by decide +kernel) ha (by decide) (by decide) he hpl
end

/-! ### a def of the text -/
def spM (C : Ct) (np : Nat) (fn : FnU) : Sp := fun vs H Q E => ∃ m us h, RUs C.K C.mg H m vs us ∧ LamX.Tabs C.T H ∧ HR C H m h ∧ us.length = np ∧ PoE C E H m (fn us h) Q
def mCall (np : Nat) (fn : FnU) (g : AM) : EM := fun ρ h => (g ρ h).bind fun us h1 => if us.length = np then fn us h1 else .bad
section
variable {C : Ct} {X : Cx} {W : WX} {k j : Nat} {e : Expr} {es : List Expr} {g : AM} {p pos : Pos} {x : Str} {f : Addr} {fd : FuncData} {ps : List Str} {np : Nat} {fn : FnU}
theorem ie_call (o : XOk C X W k) (F : FnOk X.prog X.w X.K X.mg X.base (L2.CX X.prog X.w) j f fd ps (spM C np fn)) (hk : j ≤ k) (hg : Gl X x) (hm : X.mg x = some (.ref f)) (hkp : PySem.W.keepIn X.K (.ref f) = true) (hb : Binds X.K fd ps [])
    (ha : PA X (e :: es) (tMA C W g)) (hdb : (x == ("__debug__" : Str)) = false := by decide) (he : starEach (e :: es) X.env = (false, eval e X.env) :: starEach es X.env := by rfl) (hpl : (backTo pos (starEach es X.env)).any (·.1) = false := by rfl) :
    PE X (.Call (.Name x p) (e :: es) [] pos) (tM C W (mCall np fn g)) := by
  refine (pe_callS (E := WE W) F (o.room.mono hk) hg hm hkp hb (passAt o.tk) ha hdb he hpl).imp fun σ H Q ⟨m, ρ, h, s, p⟩ => ?_
  refine tMA_then s p fun vs H1 m1 us h1 x1 s1 r1 p1 => ?_
  split at p1
  · rename_i hl
    exact ⟨m1, us, h1, r1, s1.tb, s1.hr, hl, p1⟩
  · exact p1.elim
end
end SD
namespace SD
open PySem PySem.Spec PyProof.Rows L2

/-! ### statements -/
inductive Rt where
  | nx (ρ : En) (h : Os) | rt (u : U) (h : Os) | bk (ρ : En) (h : Os) | ct (ρ : En) (h : Os) | exc (c : Str) (ρ : En) (h : Os) | bad
abbrev SM := En → Os → Rt
def PoS (C : Ct) (W : WX) (H : Hp) (m : List Addr) (r : Rt) (D : Ends) : Prop := match r with
  | .nx ρ h => ∀ σ' H' m', Ext C.T H m H' m' → Sta C H' m' σ' ρ h → D.nx σ' H'
  | .rt u h => ∀ v H' m', Ext C.T H m H' m' → HR C H' m' h → RU C.K C.mg H' m' v u → D.rt v H'
  | .bk ρ h => ∀ σ' H' m', Ext C.T H m H' m' → Sta C H' m' σ' ρ h → D.bk σ' H'
  | .ct ρ h => ∀ σ' H' m', Ext C.T H m H' m' → Sta C H' m' σ' ρ h → D.ct σ' H'
  | .exc c ρ h => ∀ σ' H' m' cl, Ext C.T H m H' m' → Sta C H' m' σ' ρ h → C.mg c = some cl → W cl none σ' H'
  | .bad => False
def sM (C : Ct) (W : WX) (g : SM) : TS := fun D σ H => ∃ m ρ h, Sta C H m σ ρ h ∧ PoS C W H m (g ρ h) D
theorem PoS.mono {C : Ct} {W : WX} {H H' : Hp} {m m' : List Addr} {r : Rt} {D : Ends} (p : PoS C W H m r D) (x : Ext C.T H m H' m') : PoS C W H' m' r D := by
  cases r with
  | nx ρ h => exact fun σ' H2 m2 y => p σ' H2 m2 (x.trans y)
  | rt u h => exact fun v H2 m2 y => p v H2 m2 (x.trans y)
  | bk ρ h => exact fun σ' H2 m2 y => p σ' H2 m2 (x.trans y)
  | ct ρ h => exact fun σ' H2 m2 y => p σ' H2 m2 (x.trans y)
  | exc c ρ h => exact fun σ' H2 m2 cl y => p σ' H2 m2 cl (x.trans y)
  | bad => exact p
/-- the value of an expression, then -/
def thenS {α : Type} (r : Rs α) (ρ : En) (k : α → Os → Rt) : Rt := match r with
  | .ok a h => k a h
  | .exc c h => .exc c ρ h
  | .bad => .bad
def mSkip : SM := fun ρ h => .nx ρ h
def mSeq (a b : SM) : SM := fun ρ h => match a ρ h with
  | .nx ρ1 h1 => b ρ1 h1
  | r => r
def mIfS (t : BM) (a b : SM) : SM := fun ρ h => thenS (t ρ h) ρ fun c h1 => if c = true then a ρ h1 else b ρ h1
def mRet (f : EM) : SM := fun ρ h => thenS (f ρ h) ρ fun u h1 => .rt u h1
def mRetN : SM := fun _ h => .rt .non h
def mDrop (f : EM) : SM := fun ρ h => thenS (f ρ h) ρ fun _ h1 => .nx ρ h1
def mBreak : SM := fun ρ h => .bk ρ h
def mCont : SM := fun ρ h => .ct ρ h
/-- targets -/
abbrev GM := U → En → Os → Option En
def gN (i : Nat) : GM := fun u ρ _ => some (ρ.set i (some u))
def seqG : List GM → List U → En → Os → Option En
  | [], [], ρ, _ => some ρ
  | g :: gs, u :: us, ρ, h => match g u ρ h with
    | some ρ1 => seqG gs us ρ1 h
    | none => none
  | _, _, _, _ => none
def itemsOf (h : Os) : U → Option (List U)
  | .tup xs => some xs
  | .fls xs => some xs
  | .ref n => match h[n]? with
    | some (.lst xs) => some xs
    | _ => none
  | _ => none
def gT (gs : List GM) : GM := fun u ρ h => match u with
  | .tup xs => if xs.length = gs.length then seqG gs xs ρ h else none
  | _ => none
def gL (gs : List GM) : GM := fun u ρ h => match u with
  | .ref n => match h[n]? with
    | some (.lst xs) => if xs.length = gs.length then seqG gs xs ρ h else none
    | _ => none
  | .fls xs => if xs.length = gs.length then seqG gs xs ρ h else none
  | _ => none
def mAsg (f : EM) (g : GM) : SM := fun ρ h => thenS (f ρ h) ρ fun u h1 => match g u ρ h1 with
  | some ρ1 => .nx ρ1 h1
  | none => .bad
def Only (js : List Nat) (σ σ' : L2.St) : Prop := σ'.length = σ.length ∧ ∀ i, i ∉ js → σ'[i]? = σ[i]?
def gM (C : Ct) (js : List Nat) (g : GM) : TG := fun v σ H Q => ∃ m ρ h u ρ', Sta C H m σ ρ h ∧ RU C.K C.mg H m v u ∧ g u ρ h = some ρ' ∧ ∀ σ', Sta C H m σ' ρ' h → Only js σ σ' → Q σ' H
def gsM (C : Ct) (js : List Nat) (gs : List GM) : TGs := fun vs σ H Q => ∃ m ρ h us ρ', Sta C H m σ ρ h ∧ RUs C.K C.mg H m vs us ∧ seqG gs us ρ h = some ρ' ∧ ∀ σ', Sta C H m σ' ρ' h → Only js σ σ' → Q σ' H
theorem PG.imp {X : Cx} {e : Expr} {t t' : TG} (h : PG X e t) (k : ∀ v σ H Q, t' v σ H Q → t v σ H Q) : PG X e t' := ⟨fun pins s σ H v u Q I r q => h.run pins s σ H v u Q I r (k v σ H Q q)⟩
theorem PGs.imp {X : Cx} {e : List Expr} {t t' : TGs} (h : PGs X e t) (k : ∀ v σ H Q, t' v σ H Q → t v σ H Q) : PGs X e t' := ⟨fun pins s σ H v u Q I r q => h.run pins s σ H v u Q I r (k v σ H Q q)⟩
section
variable {C : Ct} {X : Cx} {W : WX} {k : Nat} {e c : Expr} {f : EM} {t : BM} {a b : SM} {g : GM} {gs : List GM} {js : List Nat} {pos : Pos} {st : Stmt} {rest sa sb : List Stmt}
/-- an expression within a statement -/
theorem tM_S {σ : L2.St} {ρ : En} {H : Hp} {m : List Addr} {h : Os} {k : U → Os → Rt} {D : Ends} {R : V → Hp → Prop} (s : Sta C H m σ ρ h) (p : PoS C W H m (thenS (f ρ h) ρ k) D)
    (q : ∀ v H1 m1 u h1, Ext C.T H m H1 m1 → Sta C H1 m1 σ ρ h1 → RU C.K C.mg H1 m1 v u → PoS C W H1 m1 (k u h1) D → R v H1) : tM C W f σ H R := by
  refine ⟨m, ρ, h, s, ?_⟩
  cases e : f ρ h with
  | ok u h1 =>
    rw [e] at p
    exact fun v H1 m1 x r ru => q v H1 m1 u h1 x (s.go x r) ru (PoS.mono (r := k u h1) p x)
  | exc c h1 =>
    rw [e] at p
    exact fun H1 m1 cl x r hc => p σ H1 m1 cl x (s.go x r) hc
  | bad => rw [e] at p; exact p
theorem tMB_S {σ : L2.St} {ρ : En} {H : Hp} {m : List Addr} {h : Os} {k : Bool → Os → Rt} {D : Ends} {R : Bool → Hp → Prop} (s : Sta C H m σ ρ h) (p : PoS C W H m (thenS (t ρ h) ρ k) D)
    (q : ∀ b H1 m1 h1, Ext C.T H m H1 m1 → Sta C H1 m1 σ ρ h1 → PoS C W H1 m1 (k b h1) D → R b H1) : tMB C W t σ H R := by
  refine ⟨m, ρ, h, s, ?_⟩
  cases e : t ρ h with
  | ok u h1 =>
    rw [e] at p
    exact fun H1 m1 x r => q u H1 m1 h1 x (s.go x r) (PoS.mono (r := k u h1) p x)
  | exc c h1 =>
    rw [e] at p
    exact fun H1 m1 cl x r hc => p σ H1 m1 cl x (s.go x r) hc
  | bad => rw [e] at p; exact p
theorem is_nil : PSs X [] (sM C W mSkip) := pss_nil.imp fun D σ H ⟨m, ρ, h, s, p⟩ => p σ H m Ext.refl s
theorem is_cons (h1 : PS X st (sM C W a)) (h2 : PSs X rest (sM C W b)) : PSs X (st :: rest) (sM C W (mSeq a b)) := by
  refine (pss_cons h1 h2).imp fun D σ H ⟨m, ρ, h, s, p⟩ => ⟨m, ρ, h, s, ?_⟩
  unfold mSeq at p
  cases e : a ρ h with
  | nx ρ1 h1 =>
    rw [e] at p
    exact fun σ' H' m' x s' => ⟨m', ρ1, h1, s', PoS.mono (r := b ρ1 h1) p x⟩
  | rt u h1 => rw [e] at p; exact p
  | bk ρ1 h1 => rw [e] at p; exact p
  | ct ρ1 h1 => rw [e] at p; exact p
  | exc c ρ1 h1 => rw [e] at p; exact p
  | bad => rw [e] at p; exact p
theorem is_one (h1 : PS X st (sM C W a)) : PSs X [st] (sM C W a) := pss_one h1
theorem is_if (hc : PT X c (tMB C W t)) (ha : PSs X sa (sM C W a)) (hb : PSs X sb (sM C W b)) : PS X (.If c sa sb pos) (sM C W (mIfS t a b)) := by
  refine (ps_if hc ha hb).imp fun D σ H ⟨m, ρ, h, s, p⟩ => ?_
  refine tMB_S s p fun b H1 m1 h1 x1 s1 p1 => ?_
  cases b with
  | true => exact ⟨m1, ρ, h1, s1, p1⟩
  | false => exact ⟨m1, ρ, h1, s1, p1⟩
theorem is_ret (he : PE X e (tM C W f)) : PS X (.Return (some e) pos) (sM C W (mRet f)) :=
  (ps_ret he).imp fun D σ H ⟨m, ρ, h, s, p⟩ => tM_S s p fun v H1 m1 u h1 x1 s1 r1 p1 => p1 v H1 m1 Ext.refl s1.hr r1
theorem is_retN : PS X (.Return none pos) (sM C W mRetN) := ps_retN.imp fun D σ H ⟨m, ρ, h, s, p⟩ => p .non H m Ext.refl s.hr .non
theorem is_pass : PS X (.Pass pos) (sM C W mSkip) := ps_pass.imp fun D σ H ⟨m, ρ, h, s, p⟩ => p σ H m Ext.refl s
theorem is_break : PS X (.Break pos) (sM C W mBreak) := ps_break.imp fun D σ H ⟨m, ρ, h, s, p⟩ => p σ H m Ext.refl s
theorem is_continue : PS X (.Continue pos) (sM C W mCont) := ps_continue.imp fun D σ H ⟨m, ρ, h, s, p⟩ => p σ H m Ext.refl s
theorem is_expr (he : PE X e (tM C W f)) (hs : swapsWith e none pos.line X.env = pure false := by rfl) : PS X (.Expr e pos) (sM C W (mDrop f)) :=
  (ps_expr he hs).imp fun D σ H ⟨m, ρ, h, s, p⟩ => tM_S s p fun v H1 m1 u h1 x1 s1 r1 p1 => p1 σ H1 m1 Ext.refl s1
theorem is_set {i : Nat} {x : Str} {pos' : Pos} (hN : X.N.Nodup) (hi : X.N[i]? = some x) (hx : Loc X.env.scope x) (he : PE X e (tM C W f)) (hs : swapsWith e (some (.Name x pos')) pos.line X.env = pure false := by rfl) (hf : X.fn x = true ∨ X.env.scope.names.lookup x = some .local := by first | exact .inl rfl | exact .inr rfl | assumption) :
    PS X (.Assign [.Name x pos'] e pos) (sM C W (mAsg f (gN i))) :=
  (ps_set hN hi hx he hs hf).imp fun D σ H ⟨m, ρ, h, s, p⟩ => tM_S s p fun v H1 m1 u h1 x1 s1 r1 p1 => p1 _ H1 m1 Ext.refl (s1.set r1)
theorem is_asg {tg : Expr} (he : PE X e (tM C W f)) (hg : PG X tg (gM C js g)) (hs : swapsWithSole [tg] e pos.line X.env = pure false := by rfl) (hw : swappedStores [tg] e X.env = pure none := by rfl)
    (h1 : (assignEach [tg] X.env).map (·.2) = [assign tg X.env] := by rfl) : PS X (.Assign [tg] e pos) (sM C W (mAsg f g)) := by
  refine (ps_asg he hg hs hw h1).imp fun D σ H ⟨m, ρ, h, s, p⟩ => tM_S s p fun v H1 m1 u h1 x1 s1 r1 p1 => ?_
  cases e : g u ρ h1 with
  | none => rw [e] at p1; exact p1.elim
  | some ρ1 =>
    rw [e] at p1
    exact ⟨m1, ρ, h1, u, ρ1, s1, r1, e, fun σ' s' _ => p1 σ' H1 m1 Ext.refl s'⟩
theorem ig_name {i : Nat} {x : Str} (hij : i ∈ js) (hN : X.N.Nodup) (hi : X.N[i]? = some x) (hx : Loc X.env.scope x) (hf : X.fn x = true ∨ X.env.scope.names.lookup x = some .local := by first | exact .inl rfl | exact .inr rfl | assumption) : PG X (.Name x pos) (gM C js (gN i)) :=
  PG.imp (pg_name hN hi hx hf) fun v σ H Q ⟨m, ρ, h, u, ρ', s, r, e, q⟩ => by
    cases e
    exact q _ (s.set r) ⟨by simp, fun j hj => List.getElem?_set_ne (fun z => hj (by subst z; exact hij))⟩
theorem igs_nil : PGs X [] (gsM C js []) := PGs.imp pgs_nil fun vs σ H Q ⟨m, ρ, h, us, ρ', s, r, e, q⟩ => by
  cases us with
  | nil => cases r; cases e; exact ⟨rfl, q σ s ⟨rfl, fun _ _ => rfl⟩⟩
  | cons u us => cases e
theorem igs_cons {es : List Expr} (h1 : PG X e (gM C js g)) (h2 : PGs X es (gsM C js gs)) (hs : (assignEach (e :: es) X.env).map (·.2) = assign e X.env :: (assignEach es X.env).map (·.2) := by rfl) : PGs X (e :: es) (gsM C js (g :: gs)) :=
  PGs.imp (pgs_cons h1 h2 hs) fun vs σ H Q ⟨m, ρ, h, us, ρ', s, r, e, q⟩ => by
    cases us with
    | nil => cases e
    | cons u us =>
      cases r with
      | cons r1 r2 =>
        rw [seqG] at e
        cases e1 : g u ρ h with
        | none => rw [e1] at e; cases e
        | some ρ1 =>
          rw [e1] at e
          refine ⟨_, _, rfl, m, ρ, h, u, ρ1, s, r1, e1, fun σ1 s1 o1 => ?_⟩
          exact ⟨m, ρ1, h, us, ρ', s1, r2, e, fun σ2 s2 o2 => q σ2 s2 ⟨o2.1.trans o1.1, fun i hi => (o2.2 i hi).trans (o1.2 i hi)⟩⟩
theorem ig_tup (o : XOk C X W k) {es : List Expr} {j : Nat} (h : PGs X es (gsM C js gs)) (hn : (assignEach es X.env).length = gs.length := by rfl) (hst : (assignEach es X.env).findIdx? (·.1) = none := by rfl) : PG X (.Tuple es j pos) (gM C js (gT gs)) :=
  PG.imp (pg_tup o.calm h hn hst) fun v σ H Q ⟨m, ρ, h, u, ρ', s, r, e, q⟩ => by
    unfold gT at e
    split at e
    · split at e
      · rename_i hl
        cases r with
        | tup ha ra => exact ⟨_, _, rfl, SqT.of ha, by rw [ra.length]; exact hl, m, ρ, h, _, ρ', s, ra, e, q⟩
      · cases e
    · cases e
theorem ig_lst (o : XOk C X W k) {es : List Expr} {j : Nat} (h : PGs X es (gsM C js gs)) (hn : (assignEach es X.env).length = gs.length := by rfl) (hst : (assignEach es X.env).findIdx? (·.1) = none := by rfl) : PG X (.Tuple es j pos) (gM C js (gL gs)) :=
  PG.imp (pg_unl o.calm h hn hst) fun v σ H Q ⟨m, ρ, h, u, ρ', s, r, e, q⟩ => by
    unfold gL at e
    split at e
    · split at e
      · rename_i xs ho
        split at e
        · rename_i hl
          cases r with
          | ref hn =>
            obtain ⟨vs, ha, ra⟩ := s.hr.lst hn ho
            exact ⟨_, _, rfl, by rw [o.K]; exact SqL.of ha, by rw [ra.length]; exact hl, m, ρ, h, _, ρ', s, ra, e, q⟩
        · cases e
      · cases e
    · split at e
      · rename_i hl
        cases r with
        | fls ha ra => exact ⟨_, _, rfl, by rw [o.K]; exact ha.sq, by rw [ra.length]; exact hl, m, ρ, h, _, ρ', s, ra, e, q⟩
      · cases e
    · cases e
end

/-! ### stores -/
theorem PoE.put {C : Ct} {E : XK} {H : Hp} {m : List Addr} {h : Os} {Q : VK} {n : Nat} {a : Addr} {oo ho : HO} {o : O} {u : U} {v : V} (p : PoE C E H m (.ok u (h.set n o)) Q) (hr : HR C H m h) (hn : m[n]? = some a) (e : H a = some oo) (mu : isMut oo = true) (ro : RO C (upd H a ho) m a o) (r : RU C.K C.mg (upd H a ho) m v u) : Q v (upd H a ho) :=
  p v _ m (Ext.write (List.mem_of_getElem? hn) e mu) (hr.put hn e mu ro) r
/-- o[i] = u -/
def setIx (o i u : U) (h : Os) : Option Os := match o with
  | .ref n => match h[n]? with
    | some (.lst xs) => match i with
      | .int k => match ixN xs.length k with
        | some j => some (h.set n (.lst (xs.set j u)))
        | none => none
      | _ => none
    | some (.dic kvs) => match keyOf i with
      | some k => if kvs.length < bnd then some (h.set n (.dic (putU kvs k u))) else none
      | none => none
    | some (.diT kvs) => match i with
      | .tup us => match keysOf us with
        | some k => if kvs.length < bnd then some (h.set n (.diT (putU kvs k u))) else none
        | none => none
      | _ => none
    | _ => none
  | _ => none
/-- what a store leaves -/
theorem setIx_ok {C : Ct} {H : Hp} {m : List Addr} {h h' : Os} {o i v : V} {uo ui u : U} (hr : HR C H m h) (ro : RU C.K C.mg H m o uo) (ri : RU C.K C.mg H m i ui) (rv : RU C.K C.mg H m v u) (e : setIx uo ui u h = some h') :
    ∃ a H', o = .ref a ∧ Ext C.T H m H' m ∧ HR C H' m h' ∧ ((∃ xs k j, i = .int k ∧ H a = some (.lst xs) ∧ ixN xs.length k = some j ∧ H' = upd H a (.lst (xs.set j v))) ∨ DPut H a i v H') := by
  unfold setIx at e
  split at e
  · rename_i n
    cases ro with
    | @ref _ a hn =>
      split at e
      · rename_i xs ho
        split at e
        · rename_i k
          split at e
          · rename_i j hj
            cases e
            cases ri
            obtain ⟨vs, ha, ra⟩ := hr.lst hn ho
            have x : Ext C.T H m (upd H a (.lst (vs.set j v))) m := Ext.write (List.mem_of_getElem? hn) ha rfl
            exact ⟨a, _, rfl, x, hr.put hn ha rfl ⟨_, upd_same, (ra.set rv j).mono x⟩, .inl ⟨vs, k, j, rfl, ha, by rw [ra.length]; exact hj, rfl⟩⟩
          · cases e
        · cases e
      · rename_i kvs ho
        split at e
        · rename_i k hk
          split at e
          · rename_i hz
            cases e
            obtain ⟨es, ha, ra⟩ := hr.dic hn ho
            have x : Ext C.T H m (upd H a (.dK (putK es k v))) m := Ext.write (List.mem_of_getElem? hn) ha rfl
            have ei := keyOf_ok ri hk
            subst ei
            exact ⟨a, _, rfl, x, hr.put hn ha rfl ⟨_, upd_same, (ra.put k rv).mono x⟩, .inr (DPut.k ha (bnd_lt (by rw [ra.length]; exact hz)))⟩
          · cases e
        · cases e
      · rename_i kvs ho
        split at e
        · rename_i us
          split at e
          · rename_i k hk
            split at e
            · rename_i hz
              cases e
              obtain ⟨es, ha, ra⟩ := hr.diT hn ho
              have x : Ext C.T H m (upd H a (.dT (putK es k v))) m := Ext.write (List.mem_of_getElem? hn) ha rfl
              cases ri with
              | tup hb rb =>
                rw [keysOf_ok rb hk] at hb
                exact ⟨a, _, rfl, x, hr.put hn ha rfl ⟨_, upd_same, (ra.put k rv).mono x⟩, .inr (DPut.t ha hb (bnd_lt (by rw [ra.length]; exact hz)))⟩
            · cases e
          · cases e
        · cases e
      · cases e
  · cases e
section
variable {C : Ct} {X : Cx} {W : WX} {k : Nat} {o i e : Expr} {fo fi fv : EM} {pos pos' : Pos}
def mDPut (fo fi fv : EM) : SM := fun ρ h => thenS (fv ρ h) ρ fun v h1 => thenS (fo ρ h1) ρ fun o h2 => thenS (fi ρ h2) ρ fun i h3 => match (match o with | .ref n => (match h3[n]? with | some (.lst _) => none | _ => setIx o i v h3) | _ => none) with
  | some h4 => .nx ρ h4
  | none => .bad
theorem is_dput (x : XOk C X W k) (ho : PE X o (tM C W fo)) (hi : PE X i (tM C W fi)) (hv : PE X e (tM C W fv)) (hs : swapsWith e (some (.Subscript o i pos')) pos.line X.env = pure false := by rfl) : PS X (.Assign [.Subscript o i pos'] e pos) (sM C W (mDPut fo fi fv)) := by
  refine (ps_dput x.hu1 ho hi hv hs).imp fun D σ H ⟨m, ρ, h, s, p⟩ => ?_
  refine tM_S s p fun v1 H1 m1 u1 h1 x1 s1 r1 p1 => ?_
  refine tM_S s1 p1 fun v2 H2 m2 u2 h2 x2 s2 r2 p2 => ?_
  refine tM_S s2 p2 fun v3 H3 m3 u3 h3 x3 s3 r3 p3 => ?_
  split at p3
  · rename_i h4 e4
    have e5 : setIx u2 u3 u1 h3 = some h4 ∧ ∀ n xs, u2 = .ref n → h3[n]? ≠ some (.lst xs) := by
      split at e4
      · split at e4
        · cases e4
        · rename_i n _ hne
          refine ⟨e4, fun n' xs z => ?_⟩
          cases z
          exact fun z => hne xs z
      · cases e4
    obtain ⟨a, H', ea, x4, hr4, q⟩ := setIx_ok s3.hr (r2.mono x3) r3 ((r1.mono x2).mono x3) e5.1
    rcases q with ⟨xs, k', j, _, ha, _, _⟩ | q
    · exfalso
      subst ea
      cases r2.mono x3 with
      | @ref n _ hn =>
        have hl : n < h3.length := by rw [← s3.hr.len]; exact (List.getElem?_eq_some_iff.mp hn).1
        have ro := s3.hr.obj n a h3[n] hn (List.getElem?_eq_getElem hl)
        have ne := e5.2 n
        cases eo : h3[n] with
        | lst ys => exact ne ys rfl (by rw [List.getElem?_eq_getElem hl, eo])
        | dic ys => rw [eo] at ro; obtain ⟨_, z, _⟩ := ro; rw [ha] at z; cases z
        | diT ys => rw [eo] at ro; obtain ⟨_, z, _⟩ := ro; rw [ha] at z; cases z
        | ins c fs => rw [eo] at ro; obtain ⟨_, _, _, _, z, _⟩ := ro; rw [ha] at z; cases z
        | clo c fs => rw [eo] at ro; obtain ⟨⟨_, z, d⟩, _⟩ := ro; rw [ha] at z; cases z; obtain ⟨_, z⟩ := C.De _ _ d; cases z
        | dead =>
          have e6 := e5.1
          unfold setIx at e6
          simp only [List.getElem?_eq_getElem hl, eo] at e6
          cases e6
      | gl hn => cases e5.1
      | tup _ _ => cases e5.1
      | fls _ _ => cases e5.1
    · exact ⟨a, H', ea, q, p3 σ H' m3 x4 (s3.go x4 hr4)⟩
  · exact p3.elim
end
end SD
namespace SD
open PySem PySem.Spec PyProof.Rows L2

/-! ### what is walked -/
structure IW (C : Ct) (J : It) (H : Hp) (m : List Addr) (its : List U) (gd : Gd) : Prop where
  goes : ∀ i H2 m2 h2, i < its.length → Ex0 H m H2 m2 → HR C H2 m2 h2 → gdOk gd h2 = true → J.go i H2
  stops : ∀ H2 m2 h2, Ex0 H m H2 m2 → HR C H2 m2 h2 → gdOk gd h2 = true → J.stop its.length H2
  yields : ∀ i H2 m2 h2 x H3, i < its.length → Ex0 H m H2 m2 → HR C H2 m2 h2 → gdOk gd h2 = true → J.yld i H2 x H3 → (H3 = H2 ∨ ∃ q o, H2 q = none ∧ H3 = upd H2 q o) ∧ ∃ u, its[i]? = some u ∧ RU C.K C.mg H3 m2 x u
abbrev IM := En → Os → Rs (List U × Gd)
def PoI (C : Ct) (E : XK) (H : Hp) (m : List Addr) (r : Rs (List U × Gd)) (R : It → Hp → Prop) : Prop := match r with
  | .ok ig h => ∀ J H' m', Ext C.T H m H' m' → HR C H' m' h → IW C J H' m' ig.1 ig.2 → R J H'
  | .exc c h => ∀ H' m' cl, Ext C.T H m H' m' → HR C H' m' h → C.mg c = some cl → E cl none H'
  | .bad => False
def iM (C : Ct) (W : WX) (f : IM) : TI := fun σ H R => ∃ m ρ h, Sta C H m σ ρ h ∧ PoI C (WE W σ) H m (f ρ h) R
theorem PI.imp {X : Cx} {tg e : Expr} {t t' : TI} (h : PI X tg e t) (k : ∀ σ H R, t' σ H R → t σ H R) : PI X tg e t' := ⟨fun pins s σ H R I q => h.run pins s σ H R I (k σ H R q)⟩
section
variable {X : Cx} {tg l : Expr} {tl : TE}
def iAny (K : PySem.W.Frag) (tl : TE) : TI := fun σ H R => tl σ H fun x H1 => ∃ a, x = .ref a ∧ (((∃ xs, SqL K H1 a xs) ∧ R (Itl K a) H1) ∨ ((∃ xs, SqT K H1 a xs) ∧ R (Itt K a) H1))
/-- a list, a tuple -/
theorem pi_any (hl : PE X l tl) : PI X tg l (iAny X.K tl) := by
  refine ⟨fun pins s σ H R I h => ?_⟩
  refine thn (hl.run pins s σ H _ I h) fun v s1 ⟨x, H1, I1, r1, q1⟩ => ?_
  obtain ⟨a, e, q⟩ := q1
  subst e
  cases r1
  rcases q with ⟨⟨xs, hq⟩, q⟩ | ⟨⟨xs, hq⟩, q⟩
  · obtain ⟨its, rv, p, hz⟩ := I1.list hq
    refine wpAny_pyIter_list p.isList ?_
    refine ⟨s1.heap.objs.size, [s1.heap.objs.size], _, _, H1, rfl, I1.kept (t' := s1.toks) fun b o e => Heap.get?_push_of_some _ e, turn_list a _, ⟨_, Heap.get?_push_size _ rfl, rfl, rfl⟩, fun b hb => ?_, q⟩
    have e : b = s1.heap.objs.size := by simpa using hb
    subst e
    exact I1.fpOk (Nat.le_refl _) (I1.hok.fresh (Nat.le_refl _))
  · obtain ⟨its, rv, p, hz⟩ := I1.tuple hq
    refine wpAny_pyIter_tuple (show s1.heap.IsTuple a its.toArray from p) ?_
    refine ⟨s1.heap.objs.size, [s1.heap.objs.size], _, _, H1, rfl, I1.kept (t' := s1.toks) fun b o e => Heap.get?_push_of_some _ e, turn_tuple a _, ⟨_, Heap.get?_push_size _ rfl, rfl, rfl⟩, fun b hb => ?_, q⟩
    have e : b = s1.heap.objs.size := by simpa using hb
    subst e
    exact I1.fpOk (Nat.le_refl _) (I1.hok.fresh (Nat.le_refl _))
end
def iterOf (h : Os) : U → Option (List U × Gd)
  | .tup xs => some (xs, [])
  | .fls xs => some (xs, [])
  | .ref n => match h[n]? with
    | some (.lst xs) => some (xs, [(n, xs)])
    | _ => none
  | _ => none
def mIter (f : EM) : IM := fun ρ h => (f ρ h).bind fun u h1 => match iterOf h1 u with
  | some ig => .ok ig h1
  | none => .bad
section
variable {C : Ct} {H : Hp} {m : List Addr}
theorem iw_tup {a : Addr} {vs : List V} {us : List U} (ha : H a = some (.tup vs)) (r : RUs C.K C.mg H m vs us) : IW C (Itt C.K a) H m us [] := by
  have at_ : ∀ H2 m2, Ex0 H m H2 m2 → SqT C.K H2 a vs := fun H2 m2 x => SqT.of (x.tup _ _ ha)
  refine ⟨fun i H2 m2 h2 hi x hr g => ⟨vs, vs[i]'(by rw [r.length]; exact hi), at_ _ _ x, List.getElem?_eq_getElem _⟩, fun H2 m2 h2 x hr g => ⟨vs, at_ _ _ x, by rw [r.length]; exact Nat.le_refl _⟩, fun i H2 m2 h2 v H3 hi x hr g y => ?_⟩
  obtain ⟨e, y⟩ := y
  subst e
  have e1 := y vs (at_ _ _ x)
  obtain ⟨u, e2, r2⟩ := (r.mono0 x).getV e1
  exact ⟨.inl rfl, u, e2, r2⟩
theorem iw_fls {a : Addr} {vs : List V} {us : List U} (ha : Fz C.K H a vs) (r : RUs C.K C.mg H m vs us) : IW C (Itl C.K a) H m us [] := by
  have at_ : ∀ H2 m2, Ex0 H m H2 m2 → SqL C.K H2 a vs := fun H2 m2 x => (fz_mono x.ex1 ha).sq
  refine ⟨fun i H2 m2 h2 hi x hr g => ⟨vs, vs[i]'(by rw [r.length]; exact hi), at_ _ _ x, List.getElem?_eq_getElem _⟩, fun H2 m2 h2 x hr g => ⟨vs, at_ _ _ x, by rw [r.length]; exact Nat.le_refl _⟩, fun i H2 m2 h2 v H3 hi x hr g y => ?_⟩
  obtain ⟨e, y⟩ := y
  subst e
  have e1 := y vs (at_ _ _ x)
  obtain ⟨u, e2, r2⟩ := (r.mono0 x).getV e1
  exact ⟨.inl rfl, u, e2, r2⟩
theorem iw_ref {n : Nat} {a : Addr} {us : List U} {gd : Gd} (hn : m[n]? = some a) (hg : (n, us) ∈ gd) : IW C (Itl C.K a) H m us gd := by
  have at_ : ∀ H2 m2 h2, Ex0 H m H2 m2 → HR C H2 m2 h2 → gdOk gd h2 = true → ∃ vs, H2 a = some (.lst vs) ∧ RUs C.K C.mg H2 m2 vs us := fun H2 m2 h2 x hr g => by
    have e := gdOk_mem g hg
    obtain ⟨t, et⟩ := x.pre
    have hn2 : m2[n]? = some a := by
      rw [et, List.getElem?_append_left (List.getElem?_eq_some_iff.mp hn).1]
      exact hn
    exact hr.lst hn2 e
  refine ⟨fun i H2 m2 h2 hi x hr g => ?_, fun H2 m2 h2 x hr g => ?_, fun i H2 m2 h2 v H3 hi x hr g y => ?_⟩
  · obtain ⟨vs, ha, r⟩ := at_ _ _ _ x hr g
    exact ⟨vs, vs[i]'(by rw [r.length]; exact hi), SqL.of ha, List.getElem?_eq_getElem _⟩
  · obtain ⟨vs, ha, r⟩ := at_ _ _ _ x hr g
    exact ⟨vs, SqL.of ha, by rw [r.length]; exact Nat.le_refl _⟩
  · obtain ⟨vs, ha, r⟩ := at_ _ _ _ x hr g
    obtain ⟨e, y⟩ := y
    subst e
    have e1 := y vs (SqL.of ha)
    obtain ⟨u, e2, r2⟩ := r.getV e1
    exact ⟨.inl rfl, u, e2, r2⟩
end
section
variable {C : Ct} {X : Cx} {W : WX} {k : Nat} {tg e : Expr} {f : EM}
theorem tM_thenI {g : U → Os → Rs (List U × Gd)} {σ : L2.St} {ρ : En} {H : Hp} {m : List Addr} {h : Os} {Q : It → Hp → Prop} {R : V → Hp → Prop} (s : Sta C H m σ ρ h) (p : PoI C (WE W σ) H m ((f ρ h).bind g) Q)
    (k : ∀ v H1 m1 u h1, Ext C.T H m H1 m1 → Sta C H1 m1 σ ρ h1 → RU C.K C.mg H1 m1 v u → PoI C (WE W σ) H m (g u h1) Q → R v H1) : tM C W f σ H R := by
  refine ⟨m, ρ, h, s, ?_⟩
  cases e : f ρ h with
  | ok u h1 =>
    rw [e] at p
    exact fun v H1 m1 x r ru => k v H1 m1 u h1 x (s.go x r) ru p
  | exc c h1 => rw [e] at p; exact p
  | bad => rw [e] at p; exact p
theorem ii_any (o : XOk C X W k) (he : PE X e (tM C W f)) : PI X tg e (iM C W (mIter f)) := by
  refine PI.imp (pi_any he) fun σ H R ⟨m, ρ, h, s, p⟩ => ?_
  refine tM_thenI s p fun v H1 m1 u h1 x1 s1 r1 p1 => ?_
  rw [o.K]
  unfold iterOf at p1
  cases r1 with
  | tup ha ra => exact ⟨_, rfl, .inr ⟨⟨_, SqT.of ha⟩, p1 _ H1 m1 x1 s1.hr (iw_tup ha ra)⟩⟩
  | fls ha ra => exact ⟨_, rfl, .inl ⟨⟨_, ha.sq⟩, p1 _ H1 m1 x1 s1.hr (iw_fls ha ra)⟩⟩
  | @ref n a hn =>
    dsimp only at p1
    cases ho : h1[n]? with
    | none => rw [ho] at p1; exact p1.elim
    | some oo =>
      rw [ho] at p1
      cases oo with
      | lst xs =>
        obtain ⟨vs, ha, ra⟩ := s1.hr.lst hn ho
        exact ⟨_, rfl, .inl ⟨⟨_, SqL.of ha⟩, p1 _ H1 m1 x1 s1.hr (iw_ref hn (List.mem_singleton.mpr rfl))⟩⟩
      | _ => exact p1.elim
  | non => exact p1.elim
  | bl b => exact p1.elim
  | int b => exact p1.elim
  | str b => exact p1.elim
  | ty b => exact p1.elim
  | gl b => exact p1.elim
/-- range(n), range(a, b) -/
def rngU (a : Int) (n : Nat) : List U := (List.range n).map fun (i : Nat) => U.int (a + i)
def mRange (g : AM) : IM := fun ρ h => (g ρ h).bind fun us h1 => match us with
  | [.int j] => if j ≤ 100000 ∧ -100000 ≤ j then .ok (rngU 0 j.toNat, []) h1 else .bad
  | _ => .bad
def mRange2 (g : AM) : IM := fun ρ h => (g ρ h).bind fun us h1 => match us with
  | [.int i, .int j] => if (j ≤ 100000 ∧ -100000 ≤ j) ∧ (i ≤ 100000 ∧ -100000 ≤ i) then .ok (rngU i (j - i).toNat, []) h1 else .bad
  | _ => .bad
theorem iw_rng {H : Hp} {m : List Addr} {a : Int} {n : Nat} : IW C (Itr a n) H m (rngU a n) [] := by
  have hl : (rngU a n).length = n := by unfold rngU; simp
  refine ⟨fun i H2 m2 h2 hi x hr g => by rw [hl] at hi; exact hi, fun H2 m2 h2 x hr g => by rw [hl]; exact Nat.le_refl n, fun i H2 m2 h2 v H3 hi x hr g y => ?_⟩
  obtain ⟨e, y⟩ := y
  subst e
  subst y
  rw [hl] at hi
  exact ⟨.inl rfl, .int (a + i), by unfold rngU; simp [hi], .int _⟩
theorem tMA_thenI {ga : AM} {g : List U → Os → Rs (List U × Gd)} {σ : L2.St} {ρ : En} {H : Hp} {m : List Addr} {h : Os} {Q : It → Hp → Prop} {R : List V → Hp → Prop} (s : Sta C H m σ ρ h) (p : PoI C (WE W σ) H m ((ga ρ h).bind g) Q)
    (k : ∀ vs H1 m1 us h1, Ext C.T H m H1 m1 → Sta C H1 m1 σ ρ h1 → RUs C.K C.mg H1 m1 vs us → PoI C (WE W σ) H m (g us h1) Q → R vs H1) : tMA C W ga σ H R := by
  refine ⟨m, ρ, h, s, ?_⟩
  cases e : ga ρ h with
  | ok u h1 =>
    rw [e] at p
    exact fun v H1 m1 x r ru => k v H1 m1 u h1 x (s.go x r) ru p
  | exc c h1 => rw [e] at p; exact p
  | bad => rw [e] at p; exact p
variable {a b : Expr} {g : AM} {p pos : Pos}
theorem ii_range1 (hg : Gl X "range") (hm : X.mg "range" = none) (ha : PA X [a] (tMA C W g)) (hs : starEach [a] X.env = [(false, eval a X.env)] := by rfl) : PI X tg (.Call (.Name "range" p) [a] [] pos) (iM C W (mRange g)) := by
  refine PI.imp (pi_range1 hg hm ha hs) fun σ H R ⟨m, ρ, h, s, q⟩ => ?_
  refine tMA_thenI s q fun vs H1 m1 us' h1' x1 s1 r1 q1 => ?_
  split at q1
  · split at q1
    · rename_i hz
      obtain ⟨v, rfl, rv⟩ := r1.one
      cases rv
      exact ⟨_, rfl, by omega, by omega, q1 _ H1 m1 x1 s1.hr iw_rng⟩
    · exact q1.elim
  · exact q1.elim
theorem ii_range2 (hg : Gl X "range") (hm : X.mg "range" = none) (ha : PA X [a, b] (tMA C W g)) (hs : starEach [a, b] X.env = [(false, eval a X.env), (false, eval b X.env)] := by rfl) (hs2 : starEach [b] X.env = [(false, eval b X.env)] := by rfl) : PI X tg (.Call (.Name "range" p) [a, b] [] pos) (iM C W (mRange2 g)) := by
  refine PI.imp (pi_range2 hg hm ha hs hs2) fun σ H R ⟨m, ρ, h, s, q⟩ => ?_
  refine tMA_thenI s q fun vs H1 m1 us' h1' x1 s1 r1 q1 => ?_
  split at q1
  · split at q1
    · rename_i hz
      obtain ⟨v, w, rfl, rv, rw⟩ := r1.two
      cases rv
      cases rw
      exact ⟨_, _, rfl, ⟨by omega, by omega, by omega, by omega⟩, q1 _ H1 m1 x1 s1.hr iw_rng⟩
    · exact q1.elim
  · exact q1.elim
end

/-! ### zip of two lists, of two tuples -/
def zipU : List U → List U → List U
  | a :: as, b :: bs => .tup [a, b] :: zipU as bs
  | _, _ => []
def zipOf (h : Os) : U → U → Option (List U × Gd)
  | .tup xs, .tup ys => some (zipU xs ys, [])
  | x, y => match x, y with
    | .tup _, _ => none
    | _, .tup _ => none
    | x, y => match iterOf h x, iterOf h y with
      | some (xs, g1), some (ys, g2) => some (zipU xs ys, g1 ++ g2)
      | _, _ => none
def mZip (g : AM) : IM := fun ρ h => (g ρ h).bind fun us h1 => match us with
  | [x, y] => match zipOf h1 x y with
    | some ig => .ok ig h1
    | none => .bad
  | _ => .bad
theorem zipU_length : ∀ (xs ys : List U), (zipU xs ys).length = min xs.length ys.length
  | [], _ => by simp [zipU]
  | _ :: _, [] => by simp [zipU]
  | _ :: as, _ :: bs => by simp only [zipU, List.length_cons, zipU_length as bs]; omega
theorem zipU_get : ∀ {xs ys : List U} {i : Nat} {x y : U}, xs[i]? = some x → ys[i]? = some y → (zipU xs ys)[i]? = some (.tup [x, y])
  | [], _, _, _, _, h, _ => by simp at h
  | _ :: _, [], _, _, _, _, h => by simp at h
  | a :: as, b :: bs, 0, x, y, h1, h2 => by simp at h1 h2; subst h1; subst h2; simp [zipU]
  | a :: as, b :: bs, i + 1, x, y, h1, h2 => by
    have := zipU_get (xs := as) (ys := bs) (i := i) (by simpa using h1) (by simpa using h2)
    simpa [zipU] using this
theorem new_pair {C : Ct} {H : Hp} {m : List Addr} {q : Addr} {v w : V} {x y : U} (hq : H q = none) (r1 : RU C.K C.mg H m v x) (r2 : RU C.K C.mg H m w y) : RU C.K C.mg (upd H q (.tup [v, w])) m (.ref q) (.tup [x, y]) :=
  .tup upd_same (.cons (r1.mono (Ext.fresh (T := C.T) hq)) (.cons (r2.mono (Ext.fresh (T := C.T) hq)) .nil))
section
variable {C : Ct} {H : Hp} {m : List Addr}
theorem iw_zipT {a b : Addr} {vs ws : List V} {us ts : List U} (ha : H a = some (.tup vs)) (r : RUs C.K C.mg H m vs us) (hb : H b = some (.tup ws)) (r' : RUs C.K C.mg H m ws ts) : IW C (RZ.ItzT C.K a b) H m (zipU us ts) [] := by
  have at_ : ∀ H2 m2, Ex0 H m H2 m2 → SqT C.K H2 a vs ∧ SqT C.K H2 b ws := fun H2 m2 x => ⟨SqT.of (x.tup _ _ ha), SqT.of (x.tup _ _ hb)⟩
  have hl := r.length
  have hl' := r'.length
  have hz := zipU_length us ts
  refine ⟨fun i H2 m2 h2 hi x hr g => ?_, fun H2 m2 h2 x hr g => ?_, fun i H2 m2 h2 v H3 hi x hr g y => ?_⟩
  · exact ⟨vs, ws, vs[i]'(by omega), ws[i]'(by omega), (at_ _ _ x).1, (at_ _ _ x).2, List.getElem?_eq_getElem _, List.getElem?_eq_getElem _⟩
  · exact ⟨vs, ws, (at_ _ _ x).1, (at_ _ _ x).2, by omega⟩
  · obtain ⟨q, v1, v2, rfl, hq, rfl, f1, f2⟩ := y
    obtain ⟨u1, e1, q1⟩ := (r.mono0 x).getV (f1 vs (at_ _ _ x).1)
    obtain ⟨u2, e2, q2⟩ := (r'.mono0 x).getV (f2 ws (at_ _ _ x).2)
    exact ⟨.inr ⟨q, _, hq, rfl⟩, _, zipU_get e1 e2, new_pair hq q1 q2⟩
/-- a list that stands while its guard does -/
def Stands (C : Ct) (H : Hp) (m : List Addr) (a : Addr) (us : List U) (gd : Gd) : Prop := ∀ H2 m2 h2, Ex0 H m H2 m2 → HR C H2 m2 h2 → gdOk gd h2 = true → ∃ vs, SqL C.K H2 a vs ∧ RUs C.K C.mg H2 m2 vs us
theorem stands_of {h : Os} {v : V} {u : U} {xs : List U} {gd gd' : Gd} (hr : HR C H m h) (r : RU C.K C.mg H m v u) (ht : ∀ xs, u ≠ .tup xs) (e : iterOf h u = some (xs, gd)) (sub : ∀ p ∈ gd, p ∈ gd') : ∃ a, v = .ref a ∧ (∃ vs, SqL C.K H a vs) ∧ Stands C H m a xs gd' := by
  unfold iterOf at e
  cases r with
  | tup ha ra => exact absurd rfl (ht _)
  | fls ha ra =>
    cases e
    exact ⟨_, rfl, ⟨_, ha.sq⟩, fun H2 m2 h2 x hr g => ⟨_, (fz_mono x.ex1 ha).sq, ra.mono0 x⟩⟩
  | @ref n a hn =>
    dsimp only at e
    split at e
    · rename_i ys ho
      cases e
      obtain ⟨vs, ha, ra⟩ := hr.lst hn ho
      refine ⟨_, rfl, ⟨_, SqL.of ha⟩, fun H2 m2 h2 x hr2 g => ?_⟩
      have e := gdOk_mem g (sub (n, _) (List.mem_singleton.mpr rfl))
      obtain ⟨t, et⟩ := x.pre
      obtain ⟨ws, hb, rb⟩ := hr2.lst (a := a) (by
        rw [et, List.getElem?_append_left (List.getElem?_eq_some_iff.mp hn).1]
        exact hn) e
      exact ⟨ws, SqL.of hb, rb⟩
    · cases e
  | non => cases e
  | bl b => cases e
  | int b => cases e
  | str b => cases e
  | ty b => cases e
  | gl b => cases e
theorem iw_zipL {a b : Addr} {us ts : List U} {gd : Gd} (sa : Stands C H m a us gd) (sb : Stands C H m b ts gd) : IW C (Itz C.K a b) H m (zipU us ts) gd := by
  have hz := zipU_length us ts
  refine ⟨fun i H2 m2 h2 hi x hr g => ?_, fun H2 m2 h2 x hr g => ?_, fun i H2 m2 h2 v H3 hi x hr g y => ?_⟩
  · obtain ⟨vs, ha, r⟩ := sa _ _ _ x hr g
    obtain ⟨ws, hb, r'⟩ := sb _ _ _ x hr g
    have hl := r.length
    have hl' := r'.length
    exact ⟨vs, ws, vs[i]'(by omega), ws[i]'(by omega), ha, hb, List.getElem?_eq_getElem _, List.getElem?_eq_getElem _⟩
  · obtain ⟨vs, ha, r⟩ := sa _ _ _ x hr g
    obtain ⟨ws, hb, r'⟩ := sb _ _ _ x hr g
    have hl := r.length
    have hl' := r'.length
    exact ⟨vs, ws, ha, hb, by omega⟩
  · obtain ⟨vs, ha, r⟩ := sa _ _ _ x hr g
    obtain ⟨ws, hb, r'⟩ := sb _ _ _ x hr g
    obtain ⟨q, v1, v2, rfl, hq, rfl, f1, f2⟩ := y
    obtain ⟨u1, e1, q1⟩ := r.getV (f1 vs ha)
    obtain ⟨u2, e2, q2⟩ := r'.getV (f2 ws hb)
    exact ⟨.inr ⟨q, _, hq, rfl⟩, _, zipU_get e1 e2, new_pair hq q1 q2⟩
end
section
variable {C : Ct} {X : Cx} {W : WX} {k : Nat} {a b : Expr} {g : AM} {p pos tpos : Pos} {elts : List Expr} {kk : Nat}
theorem zip_rest {h : Os} {u1 u2 : U} {ig : List U × Gd} (n : ¬ ((∃ xs, u1 = .tup xs) ∧ ∃ ys, u2 = .tup ys)) (e : zipOf h u1 u2 = some ig) : (∀ xs, u1 ≠ .tup xs) ∧ (∀ xs, u2 ≠ .tup xs) ∧ ∃ xs ys g1 g2, iterOf h u1 = some (xs, g1) ∧ iterOf h u2 = some (ys, g2) ∧ ig = (zipU xs ys, g1 ++ g2) := by
  unfold zipOf at e
  split at e
  · exact absurd ⟨⟨_, rfl⟩, ⟨_, rfl⟩⟩ n
  · split at e
    · cases e
    · cases e
    · rename_i h1 h2
      split at e
      · rename_i xs g1 ys g2 e1 e2
        cases e
        exact ⟨h1, h2, _, _, _, _, e1, e2, rfl⟩
      · cases e
theorem ii_zip (o : XOk C X W k) (hg : Gl X "zip") (hm : X.mg "zip" = none) (ha : PA X [a, b] (tMA C W g)) (hs : starEach [a, b] X.env = (false, eval a X.env) :: starEach [b] X.env := by rfl) (hpl : (backTo pos (starEach [b] X.env)).any (·.1) = false := by rfl) : PI X (.Tuple elts kk tpos) (.Call (.Name "zip" p) [a, b] [] pos) (iM C W (mZip g)) := by
  refine PI.imp (RZ.pi_zipA hg hm ha hs hpl) fun σ H R ⟨m, ρ, h, s, q⟩ => ?_
  refine tMA_thenI s q fun vs H1 m1 us' h1' x1 s1 r1 q1 => ?_
  rw [o.K]
  split at q1
  · rename_i u1 u2
    obtain ⟨v, w, rfl, rv, rw⟩ := r1.two
    cases ez : zipOf h1' u1 u2 with
    | none => rw [ez] at q1; exact q1.elim
    | some ig =>
      rw [ez] at q1
      by_cases n : (∃ xs, u1 = .tup xs) ∧ ∃ ys, u2 = .tup ys
      · obtain ⟨⟨xs, rfl⟩, ⟨ys, rfl⟩⟩ := n
        cases ez
        cases rv with
        | tup h1 h2 =>
          cases rw with
          | tup h3 h4 => exact ⟨_, _, _, _, rfl, .inr ⟨SqT.of h1, SqT.of h3, q1 _ H1 m1 x1 s1.hr (iw_zipT h1 h2 h3 h4)⟩⟩
      · obtain ⟨n1, n2, xs, ys, g1, g2, e1, e2, rfl⟩ := zip_rest n ez
        obtain ⟨a1, rfl, ⟨vs1, f1⟩, st1⟩ := stands_of (gd' := g1 ++ g2) s1.hr rv n1 e1 (fun p hp => List.mem_append_left _ hp)
        obtain ⟨a2, rfl, ⟨vs2, f2⟩, st2⟩ := stands_of (gd' := g1 ++ g2) s1.hr rw n2 e2 (fun p hp => List.mem_append_right _ hp)
        exact ⟨_, _, _, _, rfl, .inl ⟨f1, f2, q1 _ H1 m1 x1 s1.hr (iw_zipL st1 st2)⟩⟩
  · exact q1.elim
end

/-! ### for -/
def goFor (g : GM) (body : SM) (gd : Gd) : List U → En → Os → Rt
  | [], ρ, h => if gdOk gd h = true then .nx ρ h else .bad
  | u :: us, ρ, h => if gdOk gd h = true then match g u ρ h with
    | none => .bad
    | some ρ1 => match body ρ1 h with
      | .nx ρ2 h2 => goFor g body gd us ρ2 h2
      | .ct ρ2 h2 => goFor g body gd us ρ2 h2
      | .bk ρ2 h2 => .nx ρ2 h2
      | r => r
    else .bad
def mFor (it : IM) (g : GM) (body : SM) : SM := fun ρ h => thenS (it ρ h) ρ fun ig h1 => goFor g body ig.2 ig.1 ρ h1
theorem gM_use {C : Ct} {js : List Nat} {g : GM} {v : V} {σ : L2.St} {ρ ρ' : En} {H : Hp} {m : List Addr} {h : Os} {u : U} {Q : L2.St → Hp → Prop} (s : Sta C H m σ ρ h) (r : RU C.K C.mg H m v u) (e : g u ρ h = some ρ') (q : ∀ σ', Sta C H m σ' ρ' h → Only js σ σ' → Q σ' H) : gM C js g v σ H Q := ⟨m, ρ, h, u, ρ', s, r, e, q⟩
section
variable {C : Ct} {X : Cx} {W : WX} {k : Nat} {tg iter : Expr} {body : List Stmt} {it : IM} {g : GM} {js : List Nat} {b : SM} {pos : Pos}
theorem is_for (o : XOk C X W k) (hp : PassesOwn (model X.prog X.w) X.A X.env X.xe) (hi : PI X tg iter (iM C W it)) (hg : PG X tg (gM C js g)) (hb : PSs X body (sM C W b)) (hs : ∀ x, foldedSetIterable iter X.env x = pure x := by intro _; rfl) : PS X (.For tg iter body [] pos) (sM C W (mFor it g b)) := by
  refine (ps_for hp o.calm hi hg hb hs).imp fun D σ H ⟨m, ρ, h, s, p⟩ => ?_
  refine ⟨m, ρ, h, s, ?_⟩
  unfold mFor at p
  cases e : it ρ h with
  | bad => rw [e] at p; exact p
  | exc c h1 =>
    rw [e] at p
    exact fun H1 m1 cl x r hc => p σ H1 m1 cl x (s.go x r) hc
  | ok ig h1 =>
    rw [e] at p
    intro J H1 m1 x1 hr1 iw
    have s1 := s.go x1 hr1
    have p1 : PoS C W H1 m1 (goFor g b ig.2 ig.1 ρ h1) D := PoS.mono (show PoS C W H m (goFor g b ig.2 ig.1 ρ h1) D from p) x1
    -- the word between two turns
    refine ⟨fun i mm σ' H' => mm = ig.1.length - i ∧ i ≤ ig.1.length ∧ ∃ m' ρ' h', Ext C.T H1 m1 H' m' ∧ Sta C H' m' σ' ρ' h' ∧ PoS C W H' m' (goFor g b ig.2 (ig.1.drop i) ρ' h') D,
      ⟨ig.1.length, by simp, Nat.zero_le _, m1, ρ, h1, Ext.refl, s1, by simpa using p1⟩, ?_⟩
    rintro i mm σ' H' ⟨rfl, hi, m', ρ', h', x', s', p'⟩
    by_cases hlt : i < ig.1.length
    · rw [List.drop_eq_getElem_cons hlt] at p'
      rw [goFor] at p'
      split at p'
      · rename_i hgd
        refine .inr ⟨iw.goes i H' m' h' hlt x'.ex0 s'.hr hgd, fun σ2 H2 => (i + 1 ≤ ig.1.length ∧ ∃ m' ρ' h', Ext C.T H1 m1 H2 m' ∧ Sta C H2 m' σ2 ρ' h' ∧ PoS C W H2 m' (goFor g b ig.2 (ig.1.drop (i + 1)) ρ' h') D), fun σ2 H2 q => ⟨ig.1.length - (i + 1), by omega, rfl, q⟩, fun v H2 y => ?_⟩
        obtain ⟨hH, u, eu, ru⟩ := iw.yields i H' m' h' v H2 hlt x'.ex0 s'.hr hgd y
        have eu' : u = ig.1[i] := by
          rw [List.getElem?_eq_getElem hlt] at eu
          exact (Option.some.inj eu).symm
        subst eu'
        have x2 : Ext C.T H' m' H2 m' := by
          rcases hH with e | ⟨q, oo, hq, e⟩
          · rw [e]; exact Ext.refl
          · rw [e]; exact Ext.fresh hq
        have hr2 : HR C H2 m' h' := by
          rcases hH with e | ⟨q, oo, hq, e⟩
          · rw [e]; exact s'.hr
          · rw [e]; exact s'.hr.freshO hq
        have s2 := s'.go x2 hr2
        cases eg : g ig.1[i] ρ' h' with
        | none => rw [eg] at p'; exact p'.elim
        | some ρ1 =>
          rw [eg] at p'
          dsimp only at p'
          refine gM_use s2 ru eg fun σ3 s3 _ => ?_
          refine ⟨m', ρ1, h', s3, ?_⟩
          have p2 := PoS.mono p' x2
          have step : ∀ {ρ2 : En} {h2 : Os}, PoS C W H2 m' (goFor g b ig.2 (ig.1.drop (i + 1)) ρ2 h2) D → ∀ σ4 H4 m4, Ext C.T H2 m' H4 m4 → Sta C H4 m4 σ4 ρ2 h2 → (i + 1 ≤ ig.1.length ∧ ∃ m' ρ' h', Ext C.T H1 m1 H4 m' ∧ Sta C H4 m' σ4 ρ' h' ∧ PoS C W H4 m' (goFor g b ig.2 (ig.1.drop (i + 1)) ρ' h') D) :=
            fun {ρ2 h2} pp σ4 H4 m4 x4 s4 => ⟨hlt, m4, ρ2, h2, (x'.trans x2).trans x4, s4, PoS.mono pp x4⟩
          cases eb : b ρ1 h' with
          | bad => rw [eb] at p2; exact p2
          | exc c ρ2 h2 => rw [eb] at p2; exact p2
          | rt u2 h2 => rw [eb] at p2; exact p2
          | bk ρ2 h2 => rw [eb] at p2; exact p2
          | nx ρ2 h2 => rw [eb] at p2; exact step p2
          | ct ρ2 h2 => rw [eb] at p2; exact step p2
      · exact p'.elim
    · have ei : i = ig.1.length := by omega
      subst ei
      rw [List.drop_length, goFor] at p'
      split at p'
      · rename_i hgd
        exact .inl ⟨iw.stops H' m' h' x'.ex0 s'.hr hgd, p' σ' H' m' Ext.refl s'⟩
      · exact p'.elim
end
end SD
namespace SD
open PySem PySem.Spec PyProof.Rows L2

/-! ### comprehensions -/
def goLc (g : GM) (t : BM) (f : EM) (gd : Gd) (ρ : En) : List U → Os → List U → Rs (List U)
  | [], h, acc => if gdOk gd h = true then .ok acc h else .bad
  | u :: us, h, acc => if gdOk gd h = true then match g u ρ h with
    | none => .bad
    | some ρ1 => match t ρ1 h with
      | .ok b h1 => if b = true then match f ρ1 h1 with
          | .ok y h2 => if acc.length < bnd then goLc g t f gd ρ us h2 (acc ++ [y]) else .bad
          | _ => .bad
        else goLc g t f gd ρ us h1 acc
      | _ => .bad
    else .bad
def wipeU (ρ : En) : List Nat → En
  | [] => ρ
  | v :: vs => (wipeU ρ vs).set v none
def mLc (it : IM) (g : GM) (t : BM) (f : EM) (vs : List Nat) : EM := fun ρ h => (it ρ h).bind fun ig h1 => match goLc g t f ig.2 (wipeU ρ vs) ig.1 h1 [] with
  | .ok acc h2 => .ok (.ref h2.length) (h2 ++ [.lst acc])
  | _ => .bad
def mYes : BM := fun _ h => .ok true h
theorem wipe_len (σ : L2.St) (vs : List Nat) : (wipe σ vs).length = σ.length := wipe_length σ vs
theorem wipe_in {σ : L2.St} {i : Nat} : ∀ {vs : List Nat}, i ∈ vs → i < σ.length → (wipe σ vs)[i]? = some none
  | v :: vs, h, hl => by
    unfold wipe
    by_cases e : v = i
    · subst e
      rw [List.getElem?_set_self (by rw [wipe_length]; exact hl)]
    · rw [List.getElem?_set_ne e]
      rcases List.mem_cons.mp h with z | z
      · exact absurd z.symm e
      · exact wipe_in z hl
theorem wipeU_in {σ : En} {i : Nat} : ∀ {vs : List Nat}, i ∈ vs → i < σ.length → (wipeU σ vs)[i]? = some none
  | v :: vs, h, hl => by
    unfold wipeU
    have hw : ∀ vs : List Nat, (wipeU σ vs).length = σ.length := fun vs => by
      induction vs with
      | nil => rfl
      | cons v vs ih => unfold wipeU; simp [ih]
    by_cases e : v = i
    · subst e
      rw [List.getElem?_set_self (by rw [hw]; exact hl)]
    · rw [List.getElem?_set_ne e]
      rcases List.mem_cons.mp h with z | z
      · exact absurd z.symm e
      · exact wipeU_in z hl
theorem wipeU_len (σ : En) : ∀ vs : List Nat, (wipeU σ vs).length = σ.length
  | [] => rfl
  | v :: vs => by unfold wipeU; simp [wipeU_len σ vs]
theorem wipeU_out {σ : En} {i : Nat} : ∀ {vs : List Nat}, i ∉ vs → (wipeU σ vs)[i]? = σ[i]?
  | [], _ => rfl
  | v :: vs, h => by
    unfold wipeU
    rw [List.getElem?_set_ne (fun e => h (by rw [e]; exact List.mem_cons_self)), wipeU_out fun z => h (List.mem_cons_of_mem _ z)]
theorem wipe_only {σ σ2 : L2.St} {js vs : List Nat} (o : Only js (wipe σ vs) σ2) (sub : ∀ i ∈ js, i ∈ vs) : wipe σ2 vs = wipe σ vs := by
  have hl : σ2.length = σ.length := by rw [o.1, wipe_length]
  apply List.ext_getElem?
  intro i
  by_cases hi : i ∈ vs
  · by_cases hb : i < σ.length
    · rw [wipe_in hi (by rw [hl]; exact hb), wipe_in hi hb]
    · rw [List.getElem?_eq_none (by rw [wipe_length]; omega), List.getElem?_eq_none (by rw [wipe_length]; omega)]
  · rw [wipe_out hi, o.2 i (fun z => hi (sub i z))]
theorem Sta.wipe {C : Ct} {H : Hp} {m : List Addr} {σ : L2.St} {ρ : En} {h : Os} (s : Sta C H m σ ρ h) (vs : List Nat) : Sta C H m (L2.wipe σ vs) (wipeU ρ vs) h := by
  refine ⟨by rw [wipe_length, wipeU_len, s.len], fun i u e => ?_, s.tb, s.hr⟩
  by_cases hi : i ∈ vs
  · by_cases hb : i < ρ.length
    · rw [wipeU_in hi hb] at e; cases e
    · rw [List.getElem?_eq_none (by rw [wipeU_len]; omega)] at e; cases e
  · rw [wipeU_out hi] at e
    rw [wipe_out hi]
    exact s.rs i u e
abbrev W0 : WX := fun _ _ _ _ => False
section
variable {C : Ct} {X : Cx} {W : WX} {k : Nat} {elt tg iter : Expr} {ifs : List Expr} {scope : Scope} {own : List (Str × Nat)} {it : IM} {g : GM} {js : List Nat} {t : BM} {f : EM} {pos : Pos}
theorem its_nil : PTs X [] (tMB C W mYes) := ⟨fun pins s σ H Q I ⟨m, ρ, h, st, p⟩ => pts_nil.run pins s σ H Q I (show Q true H from p H m Ext.refl st.hr)⟩
theorem its_one {c : Expr} (h : PT X c (tMB C W t)) : PTs X [c] (tMB C W t) := pts_one h
/-- what the reading of a comprehension asks -/
theorem tLc_of {σ : L2.St} {H : Hp} {Q : VK} {vs : List Nat} (sub : ∀ i ∈ js, i ∈ vs) (q : tM C W (mLc it g t f vs) σ H Q) : tLc (iM C W it) (gM C js g) (tMB C W0 t) (tM C W0 f) vs σ H Q := by
  obtain ⟨m, ρ, h, s, p⟩ := q
  refine ⟨m, ρ, h, s, ?_⟩
  unfold mLc at p
  cases e : it ρ h with
  | bad => rw [e] at p; exact p
  | exc c h1 => rw [e] at p; exact p
  | ok ig h1 =>
    rw [e] at p
    intro J H1 m1 x1 hr1 iw D hD
    have s1 := s.go x1 hr1
    have p1 : PoE C (WE W σ) H1 m1 (match goLc g t f ig.2 (wipeU ρ vs) ig.1 h1 [] with
      | .ok acc h2 => .ok (.ref h2.length) (h2 ++ [.lst acc])
      | _ => .bad) Q := PoE.mono (r := match goLc g t f ig.2 (wipeU ρ vs) ig.1 h1 [] with
      | .ok acc h2 => .ok (.ref h2.length) (h2 ++ [.lst acc])
      | _ => .bad) p x1
    have x0 : Ext C.T H1 m1 (upd H1 D (.lst [])) m1 := Ext.fresh hD
    have nD : D ∉ m1 := s1.hr.fresh hD
    -- between two turns: the new list holds what is made so far
    let Wd : Nat → Nat → Hp → Prop := fun i mm H' => mm = ig.1.length - i ∧ i ≤ ig.1.length ∧ ∃ m' h' vacc acc, Ext C.T H1 m1 H' m' ∧ Sta C H' m' (L2.wipe σ vs) (wipeU ρ vs) h' ∧ D ∉ m' ∧ H' D = some (.lst vacc) ∧ RUs C.K C.mg H' m' vacc acc ∧
      PoE C (WE W σ) H1 m1 (match goLc g t f ig.2 (wipeU ρ vs) (ig.1.drop i) h' acc with
        | .ok acc h2 => .ok (.ref h2.length) (h2 ++ [.lst acc])
        | _ => .bad) Q
    refine ⟨Wd, ⟨ig.1.length, by simp, Nat.zero_le _, m1, h1, [], [], x0, (s1.wipe vs).go x0 (s1.hr.freshO hD), nD, upd_same, .nil, by simpa using p1⟩, ?_⟩
    rintro i mm H' ⟨rfl, hi, m', h', vacc, acc, x', s', nD', eD, ra, p'⟩
    by_cases hlt : i < ig.1.length
    · rw [List.drop_eq_getElem_cons hlt] at p'
      rw [goLc] at p'
      by_cases hgd : gdOk ig.2 h' = true
      · rw [if_pos hgd] at p'
        refine .inr ⟨iw.goes i H' m' h' hlt x'.ex0 s'.hr hgd, fun H2 => Wd (i + 1) (ig.1.length - (i + 1)) H2, fun H2 q => ⟨_, by omega, q⟩, fun v H2 y => ?_⟩
        obtain ⟨hH, u, eu, ru⟩ := iw.yields i H' m' h' v H2 hlt x'.ex0 s'.hr hgd y
        have eu' : u = ig.1[i] := by
          rw [List.getElem?_eq_getElem hlt] at eu
          exact (Option.some.inj eu).symm
        subst eu'
        have x2 : Ext C.T H' m' H2 m' := by
          rcases hH with e | ⟨q, oo, hq, e⟩
          · rw [e]; exact Ext.refl
          · rw [e]; exact Ext.fresh hq
        have hr2 : HR C H2 m' h' := by
          rcases hH with e | ⟨q, oo, hq, e⟩
          · rw [e]; exact s'.hr
          · rw [e]; exact s'.hr.freshO hq
        have s2 := s'.go x2 hr2
        cases eg : g ig.1[i] (wipeU ρ vs) h' with
        | none => rw [eg] at p'; exact p'.elim
        | some ρ1 =>
          rw [eg] at p'
          dsimp only at p'
          refine gM_use s2 ru eg fun σ3 s3 o3 => ⟨wipe_only o3 sub, ?_⟩
          refine ⟨m', ρ1, h', s3, ?_⟩
          cases et : t ρ1 h' with
          | bad => rw [et] at p'; exact p'.elim
          | exc c h2 => rw [et] at p'; exact p'.elim
          | ok b h2 =>
            rw [et] at p'
            dsimp only at p'
            intro H3 m3 x3 hr3
            have s4 := s3.go x3 hr3
            have nD3 : D ∉ m3 := fun z => by
              rcases x3.new D z with z | z
              · exact nD' z
              · rw [x2.oth D _ eD nD' (fun _ z => nomatch z)] at z; cases z
            have eD3 : H3 D = some (.lst vacc) := x3.oth D _ (x2.oth D _ eD nD' (fun _ z => nomatch z)) nD' (fun _ z => nomatch z)
            cases b with
            | false =>
              rw [if_neg Bool.false_ne_true] at p' ⊢
              exact ⟨rfl, hlt, m3, h2, vacc, acc, (x'.trans x2).trans x3, s'.go (x2.trans x3) hr3, nD3, eD3, (ra.mono x2).mono x3, p'⟩
            | true =>
              rw [if_pos rfl] at p' ⊢
              refine ⟨m3, ρ1, h2, s4, ?_⟩
              cases ef : f ρ1 h2 with
              | bad => rw [ef] at p'; exact p'.elim
              | exc c h3 => rw [ef] at p'; exact p'.elim
              | ok y1 h3 =>
                rw [ef] at p'
                dsimp only at p'
                by_cases hz : acc.length < bnd
                · rw [if_pos hz] at p'
                  intro v4 H4 m4 x4 hr4 r4
                  have nD4 : D ∉ m4 := fun z => by
                    rcases x4.new D z with z | z
                    · exact nD3 z
                    · rw [eD3] at z; cases z
                  have eD4 : H4 D = some (.lst vacc) := x4.oth D _ eD3 nD3 (fun _ z => nomatch z)
                  have ra4 := ((ra.mono x2).mono x3).mono x4
                  refine ⟨vacc, eD4, bnd_lt (by rw [ra.length]; exact hz), rfl, hlt, m4, h3, vacc ++ [v4], acc ++ [y1], ?_, ?_, nD4, upd_same, ?_, p'⟩
                  · exact Ext.mut (((x'.trans x2).trans x3).trans x4) hD eD4 rfl nD4
                  · have sx := s'.go ((x2.trans x3).trans x4) hr4
                    exact ⟨sx.len, fun i u e => let ⟨v, e1, r1⟩ := sx.rs i u e; ⟨v, e1, r1.mono0 (Ex0.side eD4 rfl)⟩, (Ext.mut (((x'.trans x2).trans x3).trans x4) hD eD4 rfl nD4 : Ext C.T H1 m1 (upd H4 D (.lst (vacc ++ [v4]))) m4).tbl s1.tb, sx.hr.side nD4 eD4 rfl⟩
                  · exact (ra4.append (.cons r4 .nil)).mono0 (Ex0.side eD4 rfl)
                · rw [if_neg hz] at p'; exact p'.elim
      · rw [if_neg hgd] at p'; exact p'.elim
    · have ei : i = ig.1.length := by omega
      subst ei
      rw [List.drop_length, goLc] at p'
      by_cases hgd : gdOk ig.2 h' = true
      · rw [if_pos hgd] at p'
        refine .inl ⟨iw.stops H' m' h' x'.ex0 s'.hr hgd, ?_⟩
        dsimp only at p'
        have xg : Ext C.T H1 m1 H' (m' ++ [D]) := x'.grow hD
        have e0 : Ex0 H' m' H' (m' ++ [D]) := ⟨⟨[D], rfl⟩, fun _ _ h => h, fun _ _ _ h => h, fun _ _ h => h⟩
        have hr3 : HR C H' (m' ++ [D]) (h' ++ [.lst acc]) := by
          refine ⟨by simp [s'.hr.len], ?_, fun n a u f1 f2 => ?_⟩
          · rw [List.nodup_append]
            refine ⟨s'.hr.nd, by simp, fun a ha b hb => ?_⟩
            simp at hb
            subst hb
            intro z
            subst z
            exact nD' ha
          · by_cases hk : n < m'.length
            · rw [List.getElem?_append_left hk] at f1
              rw [List.getElem?_append_left (by rw [← s'.hr.len]; exact hk)] at f2
              exact (s'.hr.obj n a u f1 f2).mono0 e0 rfl
            · rw [List.getElem?_append_right (by omega)] at f1
              rw [List.getElem?_append_right (by rw [← s'.hr.len]; omega)] at f2
              have hz : n - m'.length = 0 := by
                have := (List.getElem?_eq_some_iff.mp f1).1
                simp at this
                omega
              rw [hz] at f1
              rw [← s'.hr.len, hz] at f2
              simp at f1 f2
              subst f1
              subst f2
              exact ⟨vacc, eD, ra.mono0 e0⟩
        exact p' (.ref D) H' _ xg hr3 (.ref (by rw [← s'.hr.len, List.getElem?_append_right (Nat.le_refl _)]; simp))
      · rw [if_neg hgd] at p'; exact p'.elim
theorem ie_lc (o : XOk C X W k) (hi : PI X tg iter (iM C W it)) (ok : BlkOk X.N X.env.scope scope own)
    (hg : ∀ (s : Shared) (H : Hp) (A : Addr) (cl : List (Str × Addr)) (fp : List Addr), PG (X.blk s H scope (compEnvC scope cl A X.env) fp) tg (gM C js g)) (ht : ∀ (s : Shared) (H : Hp) (A : Addr) (cl : List (Str × Addr)) (fp : List Addr), PTs (X.blk s H scope (compEnvC scope cl A X.env) fp) ifs (tMB C W0 t))
    (he : ∀ (s : Shared) (H : Hp) (A : Addr) (cl : List (Str × Addr)) (fp : List Addr), PE (X.blk s H scope (compEnvC scope cl A X.env) fp) elt (tM C W0 f)) (sub : ∀ i ∈ js, i ∈ own.map (·.2)) (hs : ∀ x, foldedSetIterable iter X.env x = pure x := by intro _; rfl) :
    PE X (.ListComp elt [⟨tg, iter, ifs, 0⟩] scope pos) (tM C W (mLc it g t f (own.map (·.2)))) :=
  (pe_lc o.calm o.nd hi ok hg ht he hs).imp fun σ H Q q => tLc_of sub q
theorem is_setLc {i : Nat} {y : Str} {py spos : Pos} (o : XOk C X W k) (hy : X.N[i]? = some y) (hyl : X.env.scope.names.lookup y = some .local) (hsw : swapsWith (.ListComp elt [⟨tg, iter, ifs, 0⟩] scope pos) (some (.Name y py)) spos.line X.env = pure true)
    (hi : PI X tg iter (iM C W it)) (ok : BlkOk X.N X.env.scope scope own)
    (hg : ∀ (s : Shared) (H : Hp) (A : Addr) (cl : List (Str × Addr)) (fp : List Addr), PG (X.blk s H scope (compEnvC scope cl A X.env) fp) tg (gM C js g)) (ht : ∀ (s : Shared) (H : Hp) (A : Addr) (cl : List (Str × Addr)) (fp : List Addr), PTs (X.blk s H scope (compEnvC scope cl A X.env) fp) ifs (tMB C W0 t))
    (he : ∀ (s : Shared) (H : Hp) (A : Addr) (cl : List (Str × Addr)) (fp : List Addr), PE (X.blk s H scope (compEnvC scope cl A X.env) fp) elt (tM C W0 f)) (sub : ∀ i ∈ js, i ∈ own.map (·.2)) (hs : ∀ x, foldedSetIterable iter X.env x = pure x := by intro _; rfl) :
    PS X (.Assign [.Name y py] (.ListComp elt [⟨tg, iter, ifs, 0⟩] scope pos) spos) (sM C W (mAsg (mLc it g t f (own.map (·.2))) (gN i))) := by
  refine (ps_setLc o.calm o.nd hy hyl hsw hi ok hg ht he hs).imp fun D σ H ⟨m, ρ, h, s, p⟩ => ?_
  refine tLc_of sub (tM_S s p fun v H1 m1 u h1 x1 s1 r1 p1 => p1 _ H1 m1 Ext.refl (s1.set r1))
theorem XOk.blk (o : XOk C X W k) {s : Shared} {H : Hp} {scope : Scope} {env : Env} {fp : List Addr} : XOk C (X.blk s H scope env fp) W0 k := ⟨o.K, o.mg, o.calm, o.nd, o.room, takes0⟩
end
end SD
namespace SD
open PySem PySem.Spec PyProof.Rows L2

/-! ### what a def leaves behind -/
section
variable {K : PySem.W.Frag} {mg : Str → Option Value} {H : Hp} {m t : List Addr}
mutual
theorem RU.less : ∀ {v : V} {u : U}, U.bd m.length u = true → RU K mg H (m ++ t) v u → RU K mg H m v u
  | _, _, _, .non => .non
  | _, _, _, .bl b => .bl b
  | _, _, _, .int i => .int i
  | _, _, _, .str x => .str x
  | _, _, _, .ty x => .ty x
  | _, _, hb, .ref h => .ref (by
      rw [List.getElem?_append_left (of_decide_eq_true hb)] at h
      exact h)
  | _, _, _, .gl h => .gl h
  | _, _, hb, .tup h r => .tup h (RUs.less hb r)
  | _, _, hb, .fls h r => .fls h (RUs.less hb r)
theorem RUs.less : ∀ {vs : List V} {us : List U}, U.bds m.length us = true → RUs K mg H (m ++ t) vs us → RUs K mg H m vs us
  | _, _, _, .nil => .nil
  | _, _, hb, .cons h r => .cons (RU.less ((Bool.and_eq_true _ _).mp hb).1 h) (RUs.less ((Bool.and_eq_true _ _).mp hb).2 r)
end
theorem RKs.less {κ : Type} : ∀ {es : List (κ × V)} {fs : List (κ × U)}, (fs.all fun p => U.bd m.length p.2) = true → RKs K mg H (m ++ t) es fs → RKs K mg H m es fs
  | _, _, _, .nil => .nil
  | _, _, hb, .cons h r => by
    rw [List.all_cons, Bool.and_eq_true] at hb
    exact .cons (h.less hb.1) (RKs.less hb.2 r)
end
theorem RO.less {C : Ct} {H : Hp} {m t : List Addr} {a : Addr} {o : O} (hb : O.bd m.length o = true) (r : RO C H (m ++ t) a o) : RO C H m a o := by
  cases o with
  | lst xs => obtain ⟨vs, e, r⟩ := r; exact ⟨vs, e, r.less hb⟩
  | dic xs => obtain ⟨vs, e, r⟩ := r; exact ⟨vs, e, r.less hb⟩
  | diT xs => obtain ⟨vs, e, r⟩ := r; exact ⟨vs, e, r.less hb⟩
  | ins c fs => obtain ⟨Ca, dx, es, e0, e, r⟩ := r; exact ⟨Ca, dx, es, e0, e, r.less hb⟩
  | clo id caps => obtain ⟨e, l⟩ := r; exact ⟨e, C.Ls _ _ _ _ _ _ hb l⟩
  | dead => exact r
/-- all numbers stand -/
def wf (h : Os) : Bool := h.all (O.bd h.length)
def gc (n : Nat) (r : Rs U) : Rs U := match r with
  | .ok u h => if (h.take n).all (O.bd n) = true then (if U.bd n u = true then .ok u (h.take n) else match u with
      | .ref k => match h[k]? with
        | some o => if n ≤ k ∧ O.bd n o = true then .ok (.ref n) (h.take n ++ [o]) else .ok u h
        | none => .ok u h
      | _ => .ok u h)
    else .ok u h
  | .exc c h => if (h.take n).all (O.bd n) = true then .exc c (h.take n) else .exc c h
  | .bad => .bad
section
variable {C : Ct} {E : XK} {H H' : Hp} {m m' t : List Addr} {h : Os} {Q : VK} {r : Rs U}
theorem HR.cut (hr : HR C H (m ++ t) h) (hb : (h.take m.length).all (O.bd m.length) = true) : HR C H m (h.take m.length) := by
  have hl := hr.len
  rw [List.length_append] at hl
  refine ⟨by rw [List.length_take]; omega, (List.nodup_append.mp hr.nd).1, fun n a o e1 e2 => ?_⟩
  have hn : n < m.length := (List.getElem?_eq_some_iff.mp e1).1
  have ho : O.bd m.length o = true := List.all_eq_true.mp hb o (List.mem_of_getElem? e2)
  rw [List.getElem?_take_of_lt hn] at e2
  exact (hr.obj n a o (by rw [List.getElem?_append_left hn]; exact e1) e2).less ho
theorem gc_ok (p : PoE C E H m (gc m.length r) Q) : PoE C E H m r Q := by
  cases r with
  | bad => exact p
  | exc c h =>
    unfold gc at p
    dsimp only at p
    split at p
    · rename_i hb
      intro H' m' cl x hr
      obtain ⟨t, rfl⟩ := x.pre
      exact p H' m cl x.less (hr.cut hb)
    · exact p
  | ok u h =>
    unfold gc at p
    dsimp only at p
    split at p
    · rename_i hb
      split at p
      · rename_i hu
        intro v H' m' x hr ru
        obtain ⟨t, rfl⟩ := x.pre
        exact p v H' m x.less (hr.cut hb) (ru.less hu)
      · split at p
        · rename_i k hu
          split at p
          · rename_i o ho
            split at p
            · rename_i hk
              intro v H' m' x hr ru
              obtain ⟨t, rfl⟩ := x.pre
              cases ru with
              | @ref _ a ha =>
                have e0 : Ex0 H' m H' (m ++ [a]) := ⟨⟨[a], rfl⟩, fun _ _ h => h, fun _ _ _ h => h, fun _ _ h => h⟩
                have hc := hr.cut hb
                have hl := hr.len
                rw [List.length_append] at hl
                have na : a ∉ m := fun z => by
                  obtain ⟨j, hj⟩ := List.mem_iff_getElem?.mp z
                  have hjl := (List.getElem?_eq_some_iff.mp hj).1
                  have := idx_nd hr.nd ha (by rw [List.getElem?_append_left hjl]; exact hj)
                  omega
                have hn : H a = none := by
                  rcases x.new a (List.mem_of_getElem? ha) with z | z
                  · exact absurd z na
                  · exact z
                have ro : RO C H' m a o := (hr.obj k a o ha ho).less hk.2
                exact p (.ref a) H' (m ++ [a]) (x.less.grow hn) (hc.add na ro.there (ro.mono0 e0 rfl)) (.ref (by rw [List.getElem?_append_right (Nat.le_refl _)]; simp))
            · exact p
          · exact p
        · exact p
    · exact p
end
/-! ### a def -/
def toR : Rt → Rs U
  | .rt u h => .ok u h
  | .nx _ h => .ok .non h
  | .exc c _ h => .exc c h
  | _ => .bad
def runDef (n : Nat) (g : SM) : FnU := fun us h => gc h.length (toR (g (us.map some ++ List.replicate (n - us.length) none) h))
theorem xok_cx {C : Ct} {P : Program} {w : World} {base : Heap} {N ps : List Str} {qual : Str} {scope : Scope} {f : Addr} {cd : Value} {A : Around} {outer : List Env} {s : Shared} {H : Hp} {E : XK} {k : Nat} (S : FnScope N ps scope) (hr : Room k (A.deeper (envOfC qual scope s.heap.objs.size f cd))) :
    XOk C (cxOf (L2.CX P w) P w C.K C.mg base N qual scope f cd A outer s H E) (fun cls d _ H => E cls d H) k :=
  ⟨rfl, rfl, rfl, S.nd, hr, takes_of rfl rfl rfl rfl⟩
theorem start_get {N : List Str} {vs : List V} {us : List U} {K : PySem.W.Frag} {mg : Str → Option Value} {H : Hp} {m : List Addr} (r : RUs K mg H m vs us) (i : Nat) (u : U) (e : (us.map some ++ List.replicate (N.length - us.length) none : En)[i]? = some (some u)) : ∃ v, (L2.start N vs)[i]? = some (some v) ∧ RU K mg H m v u := by
  have hl := r.length
  by_cases hi : i < us.length
  · rw [List.getElem?_append_left (by simpa using hi), List.getElem?_map] at e
    cases e1 : us[i]? with
    | none => rw [e1] at e; cases e
    | some u' =>
      rw [e1] at e
      cases e
      obtain ⟨v, e2, r2⟩ := r.get e1
      refine ⟨v, ?_, r2⟩
      unfold L2.start
      rw [List.getElem?_append_left (by rw [List.length_map]; omega), List.getElem?_map, e2]
      rfl
  · rw [List.getElem?_append_right (by rw [List.length_map]; omega), List.getElem?_replicate] at e
    split at e <;> cases e
theorem fn_def {C : Ct} {P : Program} {w : World} {base : Heap} {x qual : Str} {st : Stmt} {f : Addr} {fd : FuncData} {N ps : List Str} {k : Nat} {g : SM} (F : Fun C.K x qual st f fd) (S : FnScope N ps (defScope st))
    (hbody : ∀ (cdv : Value) (A : Around) (outer : List Env) (s : Shared) (H : Hp) (E : XK), Room k (A.deeper (envOfC qual (defScope st) s.heap.objs.size f cdv)) →
      PSs (cxOf (L2.CX P w) P w C.K C.mg base N qual (defScope st) f cdv A outer s H E) (defBody st) (sM C (fun cls d _ H => E cls d H) g)) : FnOk P w C.K C.mg base (L2.CX P w) (k + 1) f fd ps (spM C ps.length (runDef N.length g)) := by
  refine F.okX S (fun vs H Q E h => ?_) (fun cdv A outer s H vs Q E hr h => ?_)
  · obtain ⟨m, us, h, r, _, _, hl, _⟩ := h
    rw [r.length, hl]
  · obtain ⟨m, us, h, r, tb, hR, hl, p⟩ := h
    refine ⟨_, hbody cdv A outer s H E hr, m, us.map some ++ List.replicate (N.length - us.length) none, h, ⟨?_, fun i u e => start_get r i u e, tb, hR⟩, ?_⟩
    · unfold L2.start
      rw [List.length_append, List.length_append, List.length_map, List.length_map, List.length_replicate, List.length_replicate, r.length]
    · unfold runDef at p
      rw [← hR.len] at p
      have p := gc_ok p
      cases e : g (us.map some ++ List.replicate (N.length - us.length) none) h with
      | nx ρ h1 => rw [e] at p; exact fun σ' H' m' x s' => p .non H' m' x s'.hr .non
      | rt u h1 => rw [e] at p; exact p
      | bk ρ h1 => rw [e] at p; exact p.elim
      | ct ρ h1 => rw [e] at p; exact p.elim
      | exc c ρ h1 => rw [e] at p; exact fun σ' H' m' cl x s' hc => p H' m' cl x s'.hr hc
      | bad => rw [e] at p; exact p

/-! ### methods of built-in types -/
abbrev MtU := U → List U → Os → Rs U
def isTy (h : Os) (ty : String) (o : U) : Bool := match o with
  | .str _ => ty == "str"
  | .fls _ => ty == "list"
  | .ref n => match h[n]? with
    | some (.lst _) => ty == "list"
    | some (.dic _) => ty == "dict"
    | some (.diT _) => ty == "dict"
    | _ => false
  | _ => false
def mBM (ty : String) (meth : MtU) (fo : EM) (ga : AM) : EM := fun ρ h => (fo ρ h).bind fun o h1 => if isTy h1 ty o = true then (ga ρ h1).bind fun us h2 => meth o us h2 else .bad
def VMt (C : Ct) (r : V → List V → Hp → VK → Prop) (meth : MtU) : Prop := ∀ (E : XK) (H : Hp) (m : List Addr) (h : Os) (x : V) (vs : List V) (ux : U) (us : List U) (Q : VK), HR C H m h → RU C.K C.mg H m x ux → RUs C.K C.mg H m vs us → PoE C E H m (meth ux us h) Q → r x vs H Q
theorem isTy_ok {C : Ct} {H : Hp} {m : List Addr} {h : Os} {v : V} {u : U} {ty : String} (hr : HR C H m h) (r : RU C.K C.mg H m v u) (e : isTy h ty u = true) : tyV C.K ty v H := by
  unfold isTy at e
  cases r with
  | str x => exact beq_iff_eq.mp e
  | fls ha ra => exact .inl ⟨beq_iff_eq.mp e, _, ha.sq⟩
  | ref hn =>
    dsimp only at e
    split at e
    · rename_i xs ho
      obtain ⟨vs, ha, ra⟩ := hr.lst hn ho
      exact .inl ⟨beq_iff_eq.mp e, _, SqL.of ha⟩
    · rename_i xs ho
      obtain ⟨vs, ha, ra⟩ := hr.dic hn ho
      exact .inr (.inr (.inl ⟨beq_iff_eq.mp e, .inl ⟨_, ha⟩⟩))
    · rename_i xs ho
      obtain ⟨vs, ha, ra⟩ := hr.diT hn ho
      exact .inr (.inr (.inl ⟨beq_iff_eq.mp e, .inr ⟨_, ha⟩⟩))
    · cases e
  | non => cases e
  | bl b => cases e
  | int b => cases e
  | ty b => cases e
  | gl b => cases e
  | tup _ _ => cases e
section
variable {C : Ct} {X : Cx} {W : WX} {k : Nat} {o e : Expr} {es : List Expr} {fo : EM} {ga : AM} {meth : MtU} {name : Str} {apos cpos : Pos} {T id : String} {r : V → List V → Hp → VK → Prop}
theorem ie_bm (x : XOk C X W k) (pa : PlainAttrs T) (slot : Slot T name id) (hty : typeOf (.builtin id) = pure (.type "method_descriptor")) (hm : MtR X id r) (hv : VMt C r meth) (ho : PE X o (tM C W fo)) (ha : PA X (e :: es) (tMA C W ga))
    (hbase : attributeBase o name X.env (eval o X.env) = eval o X.env := by rfl)
    (hfew : ((backTo cpos (starEach (e :: es) X.env)).all (fun x => !x.1) && (backToKw cpos (keywordEach [] X.env)).all (fun x => x.1.isSome)
      && decide ((e :: es).length + ([] : List Keyword).length + (if ([] : List Keyword).isEmpty then 0 else 1) < 30)) = true := by rfl)
    (hline : (apos.endLine == cpos.line) = true := by rfl) (hs : starEach (e :: es) X.env = (false, eval e X.env) :: starEach es X.env := by rfl) (hplain : (backTo cpos (starEach es X.env)).any (·.1) = false := by rfl) :
    PE X (.Call (.Attribute o name apos) (e :: es) [] cpos) (tM C W (mBM T meth fo ga)) := by
  refine (pe_bm pa slot hty hm ho ha hbase hfew hline hs hplain).imp fun σ H Q ⟨m, ρ, h, s, p⟩ => ?_
  refine tM_then s p fun v H1 m1 u h1 x1 s1 r1 p1 => ?_
  split at p1
  · rename_i ht
    refine ⟨by rw [x.K]; exact isTy_ok s1.hr r1 ht, ?_⟩
    exact tMA_then s1 p1 fun vs H2 m2 us h2 x2 s2 r2 p2 => hv _ H2 m2 h2 v vs u us Q s2.hr (r1.mono x2) r2 p2
  · exact p1.elim
end
def bAppend : MtU := fun o us h => match o, us with
  | .ref n, [u] => match h[n]? with
    | some (.lst xs) => if xs.length < bnd then .ok .non (h.set n (.lst (xs ++ [u]))) else .bad
    | _ => .bad
  | _, _ => .bad
theorem vm_append {C : Ct} : VMt C rAppend bAppend := by
  intro E H m h x vs ux us Q hr rx rv p
  unfold bAppend at p
  split at p
  · rename_i n u
    split at p
    · rename_i xs ho
      split at p
      · rename_i hz
        cases rx with
        | ref hn =>
          obtain ⟨v, rfl, r⟩ := rv.one
          obtain ⟨ws, ha, ra⟩ := hr.lst hn ho
          refine ⟨_, ws, v, rfl, rfl, ha, bnd_lt (by rw [ra.length]; exact hz), ?_⟩
          have x : Ext C.T H m (upd H _ (.lst (ws ++ [v]))) m := Ext.write (List.mem_of_getElem? hn) ha rfl
          exact p.put hr hn ha rfl ⟨_, upd_same, (ra.append (.cons r .nil)).mono x⟩ .non
      · exact p.elim
    · exact p.elim
  · exact p.elim
/-- xs.pop(i), i not below 0 -/
def bPopAt : MtU := fun o us h => match o, us with
  | .ref n, [.int i] => match h[n]? with
    | some (.lst xs) => if 0 ≤ i ∧ i < 100000 then match xs[i.toNat]? with
      | some u => .ok u (h.set n (.lst (xs.eraseIdx i.toNat)))
      | none => .bad else .bad
    | _ => .bad
  | _, _ => .bad
theorem vm_popAt {C : Ct} : VMt C rPopAt bPopAt := by
  intro E H m h x vs ux us Q hr rx rv p
  unfold bPopAt at p
  split at p
  · rename_i n i
    split at p
    · rename_i xs ho
      split at p
      · rename_i hz
        split at p
        · rename_i u hu
          cases rx with
          | ref hn =>
            obtain ⟨v, rfl, r⟩ := rv.one
            cases r
            obtain ⟨ws, ha, ra⟩ := hr.lst hn ho
            obtain ⟨y, ey, ry⟩ := ra.get hu
            have hl := (List.getElem?_eq_some_iff.mp ey).1
            refine ⟨_, ws, i, i.toNat, y, rfl, rfl, ha, by omega, by omega, ?_, ey, ?_⟩
            · rw [seqIndex_of hz.1 (by omega)]
            · have x : Ext C.T H m (upd H _ (.lst (ws.eraseIdx i.toNat))) m := Ext.write (List.mem_of_getElem? hn) ha rfl
              exact p.put hr hn ha rfl ⟨_, upd_same, (ra.eraseIdx _).mono x⟩ (ry.mono x)
        · exact p.elim
      · exact p.elim
    · exact p.elim
  · exact p.elim
/-- xs.insert(i, u), i not below 0 -/
def bInsert : MtU := fun o us h => match o, us with
  | .ref n, [.int i, u] => match h[n]? with
    | some (.lst xs) => if (0 ≤ i ∧ i < 100000) ∧ xs.length < bnd then .ok .non (h.set n (.lst (xs.take i.toNat ++ [u] ++ xs.drop i.toNat))) else .bad
    | _ => .bad
  | _, _ => .bad
def rInsert : V → List V → Hp → VK → Prop := fun x vs H Q => ∃ (l : Addr) (xs : List V) (i : Int) (y : V), x = .ref l ∧ vs = [.int i, y] ∧ H l = some (.lst xs) ∧ xs.length < sizeLine ∧ 0 ≤ i ∧ i < 2 ^ 63 ∧ Q .non (upd H l (.lst (xs.take i.toNat ++ [y] ++ xs.drop i.toNat)))
theorem vm_insert {C : Ct} : VMt C rInsert bInsert := by
  intro E H m h x vs ux us Q hr rx rv p
  unfold bInsert at p
  split at p
  · rename_i n i u
    split at p
    · rename_i xs ho
      split at p
      · rename_i hz
        cases rx with
        | ref hn =>
          obtain ⟨v, w, rfl, r, rw⟩ := rv.two
          cases r
          obtain ⟨ws, ha, ra⟩ := hr.lst hn ho
          refine ⟨_, ws, i, w, rfl, rfl, ha, bnd_lt (by rw [ra.length]; exact hz.2), hz.1.1, by omega, ?_⟩
          have x : Ext C.T H m (upd H _ (.lst (ws.take i.toNat ++ [w] ++ ws.drop i.toNat))) m := Ext.write (List.mem_of_getElem? hn) ha rfl
          exact p.put hr hn ha rfl ⟨_, upd_same, (((ra.take _).append (.cons rw .nil)).append (ra.drop _)).mono x⟩ .non
      · exact p.elim
    · exact p.elim
  · exact p.elim
def strsOf : List U → Option (List Str)
  | [] => some []
  | .str b :: us => (strsOf us).map (b :: ·)
  | _ => none
theorem strsOf_ok {K : PySem.W.Frag} {mg : Str → Option Value} {H : Hp} {m : List Addr} : ∀ {us : List U} {vs : List V} {bs : List Str}, strsOf us = some bs → RUs K mg H m vs us → vs = bs.map V.str
  | [], _, _, e, r => by cases r; cases e; rfl
  | u :: us, _, bs, e, r => by
    cases r with
    | cons r1 r2 =>
      cases u with
      | str b =>
        rw [strsOf] at e
        obtain ⟨cs, e1, e2⟩ := Option.map_eq_some_iff.mp e
        cases r1
        subst e2
        rw [strsOf_ok e1 r2]
        rfl
      | _ => cases e
def bJoin : MtU := fun o us h => match o, us with
  | .str a, [u] => match itemsOf h u with
    | some xs => match strsOf xs with
      | some ys => if (ys.map (·.length)).sum + ys.length * a.length ≤ bnd then .ok (.str (Txt.join a ys)) h else .bad
      | none => .bad
    | none => .bad
  | _, _ => .bad
def rJoin (K : PySem.W.Frag) : V → List V → Hp → VK → Prop := fun x xs H Q => ∃ a p, ∃ ys : List Str, x = .str a ∧ xs = [.ref p] ∧ (SqL K H p (ys.map V.str) ∨ SqT K H p (ys.map V.str)) ∧ (ys.map (·.length)).sum + ys.length * a.length ≤ 16777216 ∧ Q (.str (Txt.join a ys)) H
theorem vm_join {C : Ct} : VMt C (rJoin C.K) bJoin := by
  intro E H m h x vs ux us Q hr rx rv p
  unfold bJoin at p
  split at p
  · rename_i a u
    cases e1 : itemsOf h u with
    | none => rw [e1] at p; exact p.elim
    | some xs =>
      rw [e1] at p
      dsimp only at p
      cases e2 : strsOf xs with
      | none => rw [e2] at p; exact p.elim
      | some ys =>
        rw [e2] at p
        dsimp only at p
        split at p
        · rename_i hz
          have hz' : (ys.map (·.length)).sum + ys.length * a.length ≤ 16777216 := Nat.le_trans hz (by decide)
          obtain ⟨v, rfl, r⟩ := rv.one
          cases rx
          have q := p.here hr (.str _)
          unfold itemsOf at e1
          cases r with
          | tup ha ra => cases e1; exact ⟨a, _, ys, rfl, rfl, .inr (by rw [← strsOf_ok e2 ra]; exact SqT.of ha), hz', q⟩
          | fls ha ra => cases e1; exact ⟨a, _, ys, rfl, rfl, .inl (by rw [← strsOf_ok e2 ra]; exact ha.sq), hz', q⟩
          | ref hn =>
            dsimp only at e1
            split at e1
            · rename_i zs ho
              cases e1
              obtain ⟨ws, ha, ra⟩ := hr.lst hn ho
              exact ⟨a, _, ys, rfl, rfl, .inl (by rw [← strsOf_ok e2 ra]; exact SqL.of ha), hz', q⟩
            · cases e1
          | non => cases e1
          | bl b => cases e1
          | int b => cases e1
          | str b => cases e1
          | ty b => cases e1
          | gl b => cases e1
        · exact p.elim
  · exact p.elim
section
variable {C : Ct} {X : Cx} {W : WX} {k : Nat} {o e e2 : Expr} {fo : EM} {ga : AM} {apos cpos : Pos}
theorem ie_append (x : XOk C X W k) (ho : PE X o (tM C W fo)) (ha : PA X [e] (tMA C W ga)) (hbase : attributeBase o "append" X.env (eval o X.env) = eval o X.env := by rfl)
    (hfew : ((backTo cpos (starEach [e] X.env)).all (fun x => !x.1) && (backToKw cpos (keywordEach [] X.env)).all (fun x => x.1.isSome)
      && decide ([e].length + ([] : List Keyword).length + (if ([] : List Keyword).isEmpty then 0 else 1) < 30)) = true := by rfl)
    (hline : (apos.endLine == cpos.line) = true := by rfl) (hs : starEach [e] X.env = (false, eval e X.env) :: starEach [] X.env := by rfl) :
    PE X (.Call (.Attribute o "append" apos) [e] [] cpos) (tM C W (mBM "list" bAppend fo ga)) :=
  ie_bm x PySem.F.plainAttrs_list PySem.F.slot_list_append PySem.F.type_list_append mt_append vm_append ho ha hbase hfew hline hs rfl
theorem ie_popAt (x : XOk C X W k) (ho : PE X o (tM C W fo)) (ha : PA X [e] (tMA C W ga)) (hbase : attributeBase o "pop" X.env (eval o X.env) = eval o X.env := by rfl)
    (hfew : ((backTo cpos (starEach [e] X.env)).all (fun x => !x.1) && (backToKw cpos (keywordEach [] X.env)).all (fun x => x.1.isSome)
      && decide ([e].length + ([] : List Keyword).length + (if ([] : List Keyword).isEmpty then 0 else 1) < 30)) = true := by rfl)
    (hline : (apos.endLine == cpos.line) = true := by rfl) (hs : starEach [e] X.env = (false, eval e X.env) :: starEach [] X.env := by rfl) :
    PE X (.Call (.Attribute o "pop" apos) [e] [] cpos) (tM C W (mBM "list" bPopAt fo ga)) :=
  ie_bm x PySem.F.plainAttrs_list PySem.F.slot_list_pop PySem.F.type_list_pop mt_popAt vm_popAt ho ha hbase hfew hline hs rfl
theorem ie_insert (x : XOk C X W k) (ho : PE X o (tM C W fo)) (ha : PA X [e, e2] (tMA C W ga)) (hbase : attributeBase o "insert" X.env (eval o X.env) = eval o X.env := by rfl)
    (hfew : ((backTo cpos (starEach [e, e2] X.env)).all (fun x => !x.1) && (backToKw cpos (keywordEach [] X.env)).all (fun x => x.1.isSome)
      && decide ([e, e2].length + ([] : List Keyword).length + (if ([] : List Keyword).isEmpty then 0 else 1) < 30)) = true := by rfl)
    (hline : (apos.endLine == cpos.line) = true := by rfl) (hs : starEach [e, e2] X.env = (false, eval e X.env) :: starEach [e2] X.env := by rfl) (hplain : (backTo cpos (starEach [e2] X.env)).any (·.1) = false := by rfl) :
    PE X (.Call (.Attribute o "insert" apos) [e, e2] [] cpos) (tM C W (mBM "list" bInsert fo ga)) :=
  ie_bm (r := rInsert) x PySem.F.plainAttrs_list PySem.F.slot_list_insert PySem.F.type_list_insert mt_insert vm_insert ho ha hbase hfew hline hs hplain
theorem ie_join (x : XOk C X W k) (ho : PE X o (tM C W fo)) (ha : PA X [e] (tMA C W ga)) (hbase : attributeBase o "join" X.env (eval o X.env) = eval o X.env := by rfl)
    (hfew : ((backTo cpos (starEach [e] X.env)).all (fun x => !x.1) && (backToKw cpos (keywordEach [] X.env)).all (fun x => x.1.isSome)
      && decide ([e].length + ([] : List Keyword).length + (if ([] : List Keyword).isEmpty then 0 else 1) < 30)) = true := by rfl)
    (hline : (apos.endLine == cpos.line) = true := by rfl) (hs : starEach [e] X.env = (false, eval e X.env) :: starEach [] X.env := by rfl) :
    PE X (.Call (.Attribute o "join" apos) [e] [] cpos) (tM C W (mBM "str" bJoin fo ga)) :=
  ie_bm (r := rJoin C.K) x PySem.F.plainAttrs_str PySem.F.slot_str_join PySem.F.type_str_join (by rw [← x.K]; exact mt_join) vm_join ho ha hbase hfew hline hs rfl
end
end SD
namespace SD
open PySem PySem.Spec PyProof.Rows L2 LamX NdefX

/-! ### the object of a lambda -/
/-- the object at f is the lambda F (its body b) -/
def LamO (f : Addr) (F : NF) (b : Expr) : HO := .ext fun h => ∃ (od : Option Addr) (sl : Array (Option Value)) (pm ctv : Value), h.get? f = some (⟨.type "function", od, .func (PySem.W.kla_fn F.name F.qual F.params b F.scope F.cl pm (.ref F.c) ctv), sl⟩ : Obj)
theorem lamO_at {P : Program} {w : World} {H : Hp} {h : Heap} {f : Addr} {F : NF} {b : Expr} (hok : HOk P w H h) (e : H f = some (LamO f F b)) : ∃ (od : Option Addr) (sl : Array (Option Value)) (pm ctv : Value), h.get? f = some (⟨.type "function", od, .func (PySem.W.kla_fn F.name F.qual F.params b F.scope F.cl pm (.ref F.c) ctv), sl⟩ : Obj) := by
  obtain ⟨z, _, _⟩ := hok f _ e
  exact z
section
variable {X : Cx} {pins : List (Addr × Obj)} {σ : L2.St} {H : Hp} {s : Shared}
theorem inv_lam {F : NF} {b : Expr} {o : Obj} {t' : Nat} {pm ctv : Value} (I : Inv X pins σ H s) (ho : o = { cls := .type "function", data := .func (PySem.W.kla_fn F.name F.qual F.params b F.scope F.cl pm (.ref F.c) ctv) }) :
    Inv X pins σ (upd H s.heap.objs.size (LamO s.heap.objs.size F b)) { s with heap := s.heap.push o, toks := t' } := by
  subst ho
  refine I.laid (a := s.heap.objs.size) (fun b u e => Heap.get?_push_of_some _ e) (Nat.le_refl _) ?_
  have e : (s.heap.push ({ cls := .type "function", data := .func (PySem.W.kla_fn F.name F.qual F.params b F.scope F.cl pm (.ref F.c) ctv) } : Obj)).get? s.heap.objs.size = some ({ cls := .type "function", data := .func (PySem.W.kla_fn F.name F.qual F.params b F.scope F.cl pm (.ref F.c) ctv) } : Obj) := Heap.get?_push_size _ rfl
  exact ⟨⟨_, _, pm, ctv, e⟩, ⟨_, e⟩, fun h1 h2 ⟨od, sl, p, t, z⟩ st => ⟨od, sl, p, t, st _ z⟩⟩
/-- a lambda is made -/
theorem lam_new {T : List (Addr × Str)} {c P : Addr} {params : Arguments} {body : Expr} {scope : Scope} {pos : Pos} {E : Value → Shared → Prop} {Q : Value → Shared → Prop} (I : Inv X pins σ H s) (TB : TabB X.base X.mg c P) (hcode : X.env.code = .ref c)
    (hm : (P, X.env.qual ++ "<lambda>") ∈ T) (hu : ∀ p ∈ T, p.1 = P → p.2 = X.env.qual ++ "<lambda>") (hT : Tabs T H) (hdef : defaultsOf params X.env = ([], [])) (hfree : ∀ y ∈ scope.names, y.2 = .free → ∃ c, X.env.cells.lookup y.1 = some c)
    (h : ∀ (f c' : Addr) (H1 : Hp) (s' : Shared), Inv X pins σ H1 s' → ExtN H H1 → (∀ b, H1 b = Option.none → H b = Option.none) → Tabs T H1 → H f = none → H1 f = some (LamO f ⟨"<lambda>", X.env.qual ++ "<lambda>", params, [], scope, cloFrom X.env.cells scope.names [], c'⟩ body) → H1 c' = some (CodeO c' (X.env.qual ++ "<lambda>")) → Q (.ref f) s') :
    wpAny (model X.prog X.w) X.A (eval (.Lambda params body scope pos) X.env) Q E s := by
  obtain ⟨ps, hP, ht, ha⟩ := hT _ hm
  refine PySem.W.kla_eval hdef ?_
  have bP : s.heap.BuiltinsAt X.mg P := TB.bm.keeps I.bk
  have hP' : s.heap.get? P = some { cls := .none, data := .fields ps } := I.hok P _ hP
  cases hc : codeAmong pos ps.toList with
  | none =>
    refine PySem.W.kla_makeFunction (mg := X.mg) (c := c) (P := P) (ps := ps) (closure_ok hfree) I.ok.glob (I.mod.glob.keeps I.bk) hcode (TB.code.keeps I.bk) hP' ht hc TB.gP bP fun c' ctv h' tk hx hge hlt hrec htb => ?_
    obtain ⟨c2, oc, vs, t, e2, hoc, hd, hv⟩ := hrec
    cases e2
    have nC : H c' = none := I.hok.fresh hge
    have I1 := inv_table (t' := tk) (more := #[rawInt pos.line, rawInt pos.col, .ref c']) (h' := h') I hP (fun b o hb e => hx b o hb e) htb hge ⟨oc, vs, t, hoc, hd, hv⟩
    have hE : ExtN H (upd (upd H P (.tbl (ps ++ #[rawInt pos.line, rawInt pos.col, .ref c']))) c' (CodeO c' (X.env.qual ++ "<lambda>"))) := fun b o e n => by
      rw [upd_ne (ne_of_none e nC), upd_ne (fun z => n ps (Option.some.inj (e.symm.trans (by rw [z]; exact hP))))]
      exact e
    have eL : (ps ++ #[rawInt pos.line, rawInt pos.col, .ref c']).toList = ps.toList ++ [rawInt pos.line, rawInt pos.col, .ref c'] := by simp
    have T1 : Tabs T (upd (upd H P (.tbl (ps ++ #[rawInt pos.line, rawInt pos.col, .ref c']))) c' (CodeO c' (X.env.qual ++ "<lambda>"))) := fun p hp => by
      by_cases hb : p.1 = P
      · rw [hu p hp hb, hb]
        refine ⟨_, by rw [upd_ne (ne_of_none hP nC), upd_same], by rw [eL]; exact PySem.TriplesOk_snoc _ _ _ _ ht, fun p' cv hcv => ?_⟩
        rw [eL] at hcv
        rcases LamX.among_app _ ht hcv with z | z
        · obtain ⟨c0, e1, e2⟩ := ha p' cv z
          exact ⟨c0, e1, hE _ _ e2 LamX.codeO_ne⟩
        · exact ⟨c', z, upd_same⟩
      · obtain ⟨ps', a1, a2, a3⟩ := hT p hp
        refine ⟨ps', by rw [upd_ne (ne_of_none a1 nC), upd_ne hb]; exact a1, a2, fun p' cv hcv => ?_⟩
        obtain ⟨c0, e1, e2⟩ := a3 p' cv hcv
        exact ⟨c0, e1, hE _ _ e2 LamX.codeO_ne⟩
    have nF := I1.hok.fresh (Nat.le_refl _)
    have I2 := inv_lam (F := ⟨"<lambda>", X.env.qual ++ "<lambda>", params, [], scope, cloFrom X.env.cells scope.names [], c'⟩) (b := body) (t' := tk) (pm := (X.mg "__name__").getD .none) (ctv := ctv) I1 rfl
    refine h h'.objs.size c' _ _ I2 (fun b o e n => ?_) (fun b e => upd_none (upd_none (upd_none e))) (T1.ext fun b o e => ?_) (I.hok.fresh (Nat.le_trans hge (Nat.le_of_lt hlt))) upd_same ?_
    · have e1 := hE b o e n
      exact (upd_ne (ne_of_none e1 nF)).trans e1
    · exact (upd_ne (ne_of_none e nF)).trans e
    · exact (upd_ne (Nat.ne_of_lt hlt)).trans upd_same
  | some cv =>
    obtain ⟨c', e, hco⟩ := ha pos cv hc
    subst e
    refine PySem.W.kla_makeFunctionHit (mg := X.mg) (c := c) (P := P) (ps := ps) (closure_ok hfree) I.ok.glob (I.mod.glob.keeps I.bk) hcode (TB.code.keeps I.bk) hP' ht hc bP fun ctv h' tk hx hsz => ?_
    have I1 : Inv X pins σ H { s with heap := h', toks := tk } := I.kept hx
    have nF : H h'.objs.size = none := I1.hok.fresh (Nat.le_refl _)
    have I2 := inv_lam (F := ⟨"<lambda>", X.env.qual ++ "<lambda>", params, [], scope, cloFrom X.env.cells scope.names [], c'⟩) (b := body) (t' := tk) (pm := (X.mg "__name__").getD .none) (ctv := ctv) I1 rfl
    refine h h'.objs.size c' _ _ I2 (fun b o e n => ?_) (fun b e => upd_none e) (hT.ext fun b o e => ?_) nF upd_same ?_
    · exact (upd_ne (ne_of_none e nF)).trans e
    · exact (upd_ne (ne_of_none e nF)).trans e
    · exact (upd_ne (ne_of_none hco nF)).trans hco
end

/-! ### a lambda's promise -/
structure LOk (P : Program) (w : World) (K : PySem.W.Frag) (mg : Str → Option Value) (base : Heap) (CX : CXT) (k : Nat) (f : Addr) (F : NF) (b : Expr) (ps fr : List Str) (sp : List (Option V) → Sp) : Prop where
  run : ∀ (A : Around) (outer : List Env) (s : Shared) (H : Hp) (us : List Value) (vs : List V) (ws : List (Option V)) (Q : VK) (E : XK), Room k A → Env0 P w K mg base A outer s H → H f = some (LamO f F b) → H F.c = some (CodeO F.c F.qual) →
    CellsAt F.cl fr ws s.heap H → Vals vs us → sp ws vs H Q E → codeAny (model P w) A (.call (.ref f) ⟨us, []⟩) (CR CX outer P w H s Q E) s
theorem LOk.mono {P : Program} {w : World} {K : PySem.W.Frag} {mg : Str → Option Value} {base : Heap} {CX : CXT} {j k : Nat} {f : Addr} {F : NF} {b : Expr} {ps fr : List Str} {sp : List (Option V) → Sp} (o : LOk P w K mg base CX j f F b ps fr sp) (h : j ≤ k) : LOk P w K mg base CX k f F b ps fr sp :=
  ⟨fun A outer s H us vs ws Q E hr => o.run A outer s H us vs ws Q E (hr.mono h)⟩
theorem lok_of {CX : CXT} {P : Program} {w : World} {K : PySem.W.Frag} {mg : Str → Option Value} {base : Heap} {N ps fr : List Str} {F : NF} {b : Expr} {f : Addr} {k : Nat} {sp : List (Option V) → Sp} (S : NScope N ps fr F.scope)
    (hb : ∀ (pm ctv : Value) (us : List Value), us.length = ps.length → bindArgs (PySem.W.kla_fn F.name F.qual F.params b F.scope F.cl pm (.ref F.c) ctv) ⟨us, []⟩ = pure (ps.zip us)) (len : ∀ ws vs H Q E, sp ws vs H Q E → vs.length = ps.length)
    (hbody : ∀ (A : Around) (outer : List Env) (s : Shared) (H : Hp) (vs : List V) (ws : List (Option V)) (Q : VK) (E : XK), Room k (A.deeper (envF F f s.heap.objs.size)) → ws.length = fr.length → sp ws vs H Q E →
      ∃ t, PE (ncx CX P w K mg base N F f A outer s H E) b t ∧ t (startF N vs ws) H Q) :
    LOk P w K mg base CX (k + 1) f F b ps fr sp := by
  refine ⟨fun A outer s H us vs ws Q E hr e0 hf hc C r hsp => ?_⟩
  have hl := len _ _ _ _ _ hsp
  have lim : s.heap.NoLimit := e0.mod.nolimit.keeps fun b o e => (e0.bs b o e).1
  obtain ⟨od, sl, pm, ctv, ho⟩ := lamO_at e0.hok hf
  refine PySem.W.kla_callFunE hr.depth ho rfl S.co S.gen rfl (codeO_at e0.hok hc) ?_
  rw [hb pm ctv us (by rw [← r.length]; exact hl)]
  refine wpAny_pure (wpAny_newFunctionEnv S.nocell (fun ⟨n, _⟩ hy => S.par n (List.of_mem_zip hy).1) (fun h₁ hns hsb => ⟨lim.fresh _ hsb, ?_⟩) S.kind)
  show codeAny _ _ (.expr b (envF F f s.heap.objs.size)) _ _
  have kp : ∀ b o, s.heap.get? b = some o → h₁.get? b = some o := fun b o e => hsb.extBut b o (Nat.ne_of_lt (Heap.lt_size e)) (Heap.get?_push_of_some _ e)
  obtain ⟨t, ht, hq⟩ := hbody A outer s H vs ws Q E (hr.deeper _) C.len hsp
  have I : Inv (ncx CX P w K mg base N F f A outer s H E) [] (startF N vs ws) H { s with heap := h₁, toks := s.toks + (ps.zip us).length } := inv_startN S hr.hd e0 hl r C hns kp
  refine PySem.W.kla_codeExpr (wpAny_mono (ht.run [] _ (startF N vs ws) H Q I hq) (fun v s' hs => ?_) fun e s' hs => hs)
  obtain ⟨w', H', J, rv, q⟩ := hs
  exact ⟨w', H', J.os, J.bare, J.base, J.hok, rv, q⟩

/-! ### cells that are tracked -/
/-- the object at c is o, to the sign -/
def CellX (c : Addr) (o : Obj) : HO := .ext fun h => h.get? c = some o
theorem cellX_ok {P : Program} {w : World} {H : Hp} {h : Heap} {c : Addr} {o : Obj} (e : h.get? c = some o) : ObjOk P w H h c (CellX c o) := ⟨e, ⟨_, e⟩, fun h1 h2 z st => st _ z⟩
theorem cellX_at {P : Program} {w : World} {H : Hp} {h : Heap} {c : Addr} {o : Obj} (hok : HOk P w H h) (e : H c = some (CellX c o)) : h.get? c = some o := by
  obtain ⟨z, _, _⟩ := hok c _ e
  exact z
/-- without the things at the places p -/
def drop (H : Hp) (p : Addr → Bool) : Hp := fun b => if p b = true then none else H b
/-- with those of G there -/
def lift (H G : Hp) (p : Addr → Bool) : Hp := fun b => if p b = true then G b else H b
theorem drop_out {H : Hp} {p : Addr → Bool} {b : Addr} (h : p b = false) : drop H p b = H b := by unfold drop; rw [h]; simp
theorem drop_in {H : Hp} {p : Addr → Bool} {b : Addr} (h : p b = true) : drop H p b = none := by unfold drop; rw [h]; simp
theorem lift_out {H G : Hp} {p : Addr → Bool} {b : Addr} (h : p b = false) : lift H G p b = H b := by unfold lift; rw [h]; simp
theorem lift_in {H G : Hp} {p : Addr → Bool} {b : Addr} (h : p b = true) : lift H G p b = G b := by unfold lift; rw [h]; simp
/-- at p stand things of .ext alone -/
def ExtAt (H : Hp) (p : Addr → Bool) : Prop := ∀ b, p b = true → ∃ o, H b = some (CellX b o)
theorem some_false {p : Addr → Bool} {b : Addr} (h : ¬ p b = true) : p b = false := by cases e : p b <;> simp_all
theorem ExtAt.out {H : Hp} {p : Addr → Bool} (x : ExtAt H p) {b : Addr} {o : HO} (e : H b = some o) (n : ∀ φ, o ≠ .ext φ) : p b = false := some_false fun z => by
  obtain ⟨o', e'⟩ := x b z
  rw [e] at e'
  cases e'
  exact n _ rfl
theorem hok_drop {P : Program} {w : World} {H : Hp} {h : Heap} {p : Addr → Bool} (ok : HOk P w H h) (x : ExtAt H p) : HOk P w (SD.drop H p) h := fun b o e => by
  have hb : p b = false := some_false fun z => by rw [drop_in z] at e; cases e
  rw [drop_out hb] at e
  exact (ok b o e).stay (fun _ _ _ q => q) (fun c q => by rw [drop_out (x.out q fun _ z => nomatch z)]; exact q) (fun c xs q => by rw [drop_out (x.out q fun _ z => nomatch z)]; exact q)
theorem hok_lift {P : Program} {w : World} {H G : Hp} {h : Heap} {p : Addr → Bool} (ok : HOk P w H h) (x : ExtAt G p) (n : ∀ b, p b = true → H b = none) (k : ∀ b o, p b = true → G b = some (CellX b o) → h.get? b = some o) : HOk P w (SD.lift H G p) h := fun b o e => by
  cases hb : p b with
  | true =>
    rw [lift_in hb] at e
    obtain ⟨o', e'⟩ := x b hb
    rw [e] at e'
    cases e'
    exact cellX_ok (k b o' hb e)
  | false =>
    rw [lift_out hb] at e
    have keep : ∀ c u, H c = some u → SD.lift H G p c = some u := fun c u q => by
      rw [lift_out (some_false fun z => by rw [n c z] at q; cases q)]
      exact q
    exact (ok b o e).stay (fun _ _ _ q => q) (fun c q => keep c _ q) (fun c xs q => keep c _ q)

/-! ### a lambda is called where its cells are tracked -/
section
variable {P : Program} {w : World} {K : PySem.W.Frag} {mg : Str → Option Value} {base : Heap} {A : Around} {outer : List Env} {s : Shared} {H : Hp} {p : Addr → Bool}
theorem env0_drop (e0 : Env0 P w K mg base A outer s H) (x : ExtAt H p) : Env0 P w K mg base A outer s (drop H p) :=
  ⟨e0.frames, e0.mod, fun b o e => ⟨(e0.bs b o e).1, by
    cases h : p b with
    | true => exact drop_in h
    | false => rw [drop_out h]; exact (e0.bs b o e).2⟩, e0.bsz, e0.funs, fun b hb => by
    cases h : p b with
    | true => exact drop_in h
    | false => rw [drop_out h]; exact e0.frf b hb, hok_drop e0.hok x, e0.bare⟩
/-- behind the call the cells are as they were -/
theorem cr_lift {Q : VK} {E : XK} (e0 : Env0 P w K mg base A outer s H) (x : ExtAt H p) {r : Result} {s' : Shared} (c : CR (L2.CX P w) outer P w (drop H p) s (fun v H' => (∀ b, p b = true → H' b = none) → Q v (lift H' H p)) (fun cls d H' => (∀ b, p b = true → H' b = none) → E cls d (lift H' H p)) r s') : CR (L2.CX P w) outer P w H s Q E r s' := by
  have none_of : ∀ b, H b = none → p b = false := fun b e => some_false fun z => by obtain ⟨o, e'⟩ := x b z; rw [e] at e'; cases e'
  have cell : ∀ b o, p b = true → H b = some (CellX b o) → s.heap.get? b = some o ∧ b ∉ frs outer := fun b o hb e => ⟨cellX_at e0.hok e, fun z => by rw [e0.frf b z] at e; cases e⟩
  cases r with
  | error e =>
    obtain ⟨a, B, H', cls, d, rfl, fl, ok, ub, na, os, bare, q⟩ := c
    have nB : ∀ b, p b = true → H' b = none := fun b hb => by
      obtain ⟨o, e⟩ := x b hb
      exact ub.free b o (cell b o hb e).1 (drop_in hb)
    refine ⟨a, B, lift H' H p, cls, d, rfl, fl, hok_lift ok x nB fun b o hb e => ub.keep b o (cell b o hb e).1 (drop_in hb) (cell b o hb e).2, ⟨fun b o e n hb => ?_, ub.slot, fun b o e n => ?_, ub.there, fun b xs e => ?_, fun b o u e => ?_, fun b ps e => ?_⟩, ?_, os, bare, q nB⟩
    · exact ub.keep b o e (by rw [drop_out (none_of b n)]; exact n) hb
    · rw [lift_out (none_of b n)]
      exact ub.free b o e (by rw [drop_out (none_of b n)]; exact n)
    · have hb := x.out e fun _ z => nomatch z
      rw [lift_out hb]
      exact ub.tups b xs (by rw [drop_out hb]; exact e)
    · have hb := x.out e fun _ z => nomatch z
      rw [lift_out hb]
      exact ub.frzs b o u (by rw [drop_out hb]; exact e)
    · have hb := x.out e fun _ z => nomatch z
      rw [lift_out hb]
      exact ub.tbls b ps (by rw [drop_out hb]; exact e)
    · rw [lift_out (some_false fun z => ?_)]
      · exact na
      · obtain ⟨o, e⟩ := x a z
        obtain ⟨h1, h2⟩ := cell a o z e
        have e2 := ub.keep a o h1 (drop_in z) h2
        rw [fl.2.1] at e2
        cases e2
  | ok fl =>
    cases fl with
    | ret u =>
      obtain ⟨v, H', os, bare, un, hok, rv, q⟩ := c
      have nB : ∀ b, p b = true → H' b = none := fun b hb => by
        obtain ⟨o, e⟩ := x b hb
        exact un.free b o (cell b o hb e).1 (drop_in hb) (by simp)
      refine ⟨v, lift H' H p, os, bare, ⟨fun b o e n hb hx => ?_, fun b o e n hb hx => ?_, fun b o e n hx => ?_, un.there, fun b xs e => ?_, fun b o u e => ?_, fun b ps e => ?_⟩, hok_lift hok x nB fun b o hb e => un.keep b o (cell b o hb e).1 (drop_in hb) (cell b o hb e).2 (by simp), rv, q nB⟩
      · exact un.keep b o e (by rw [drop_out (none_of b n)]; exact n) hb hx
      · exact un.slot b o e (by rw [drop_out (none_of b n)]; exact n) hb hx
      · rw [lift_out (none_of b n)]
        exact un.free b o e (by rw [drop_out (none_of b n)]; exact n) hx
      · have hb := x.out e fun _ z => nomatch z
        rw [lift_out hb]
        exact un.tups b xs (by rw [drop_out hb]; exact e)
      · have hb := x.out e fun _ z => nomatch z
        rw [lift_out hb]
        exact un.frzs b o u (by rw [drop_out hb]; exact e)
      · have hb := x.out e fun _ z => nomatch z
        rw [lift_out hb]
        exact un.tbls b ps (by rw [drop_out hb]; exact e)
    | next => exact c
    | brk => exact c
    | cont => exact c
end
end SD
namespace SD
open PySem PySem.Spec PyProof.Rows L2 LamX NdefX

/-! ### what a closure is -/
structure LI where
  params : Arguments
  body : Expr
  scope : Scope
  ps : List Str
  fr : List Str
def mkF (li : LI) (qual : Str) (cl : List (Str × Addr)) (c : Addr) : NF := ⟨"<lambda>", qual, li.params, [], li.scope, cl, c⟩
structure LamAt (K : PySem.W.Frag) (mg : Str → Option Value) (li : LI) (H : Hp) (m : List Addr) (a : Addr) (caps : List U) (qual : Str) (cl : List (Str × Addr)) (c : Addr) (ws : List V) : Prop where
  at_ : H a = some (LamO a (mkF li qual cl c) li.body)
  code : H c = some (CodeO c qual)
  rs : RUs K mg H m ws caps
  len : caps.length = li.fr.length
  inj : ∀ x y b, cl.lookup x = some b → cl.lookup y = some b → x = y
  all : ∀ y b, cl.lookup y = some b → ∃ o v, H b = some (CellX b o) ∧ o.data = .cell v
  has : ∀ (i : Nat) (y : Str), li.fr[i]? = some y → ∃ b, cl.lookup y = some b ∧ ∀ v, ws[i]? = some v → ∃ o u, H b = some (CellX b o) ∧ o.data = .cell (some u) ∧ L2.RelV v u
def LamIs (tb : Nat → Option LI) (K : PySem.W.Frag) (mg : Str → Option Value) (id : Nat) (H : Hp) (m : List Addr) (a : Addr) (caps : List U) : Prop :=
  ∃ li qual cl c ws, tb id = some li ∧ LamAt K mg li H m a caps qual cl c ws
def ctOf (K : PySem.W.Frag) (mg : Str → Option Value) (T : List (Addr × Str)) (tb : Nat → Option LI) : Ct where
  K := K
  mg := mg
  T := T
  L := LamIs tb K mg
  Dd := fun a o => ∃ F b, o = LamO a F b
  De := fun a o ⟨F, b, e⟩ => ⟨_, e⟩
  Lm := fun id H m H' m' a caps x ⟨li, qual, cl, c, ws, e, h⟩ => ⟨li, qual, cl, c, ws, e, x.ext _ _ h.at_, x.ext _ _ h.code, h.rs.mono0 x, h.len, h.inj,
    fun y b q => let ⟨o, v, e1, e2⟩ := h.all y b q; ⟨o, v, x.ext _ _ e1, e2⟩, fun i y q => let ⟨b, e0, k⟩ := h.has i y q; ⟨b, e0, fun v ev => let ⟨o, u, e1, e2, e3⟩ := k v ev; ⟨o, u, x.ext _ _ e1, e2, e3⟩⟩⟩
  Ls := fun id H m t a caps hb ⟨li, qual, cl, c, ws, e, h⟩ => ⟨li, qual, cl, c, ws, e, h.at_, h.code, h.rs.less hb, h.len, h.inj, h.all, h.has⟩

/-! ### the heap without cells -/
/-- at p stand cells -/
def CellsP (H : Hp) (p : Addr → Bool) : Prop := ∀ b, p b = true → ∃ o v, H b = some (CellX b o) ∧ o.data = .cell v
theorem CellsP.ext {H : Hp} {p : Addr → Bool} (x : CellsP H p) : ExtAt H p := fun b hb => let ⟨o, _, e, _⟩ := x b hb; ⟨o, e⟩
section
variable {P : Program} {w : World} {H : Hp} {h : Heap} {p : Addr → Bool} {a : Addr}
theorem CellsP.lam (x : CellsP H p) (ok : HOk P w H h) {F : NF} {b : Expr} (e : H a = some (LamO a F b)) : p a = false := some_false fun z => by
  obtain ⟨o, v, e1, e2⟩ := x a z
  obtain ⟨od, sl, pm, ctv, h1⟩ := lamO_at ok e
  have h2 := cellX_at ok e1
  rw [h1] at h2
  cases h2
  cases e2
theorem CellsP.code (x : CellsP H p) (ok : HOk P w H h) {q : Str} (e : H a = some (CodeO a q)) : p a = false := some_false fun z => by
  obtain ⟨o, v, e1, e2⟩ := x a z
  obtain ⟨⟨oc, vs, t, h1, h2, h3⟩, _, _⟩ := ok a _ e
  have h4 := cellX_at ok e1
  rw [h1] at h4
  cases h4
  rw [h2] at e2
  cases e2
theorem CellsP.tabs {T : List (Addr × Str)} (x : CellsP H p) (ok : HOk P w H h) (t : LamX.Tabs T H) : LamX.Tabs T (drop H p) := fun q hq => by
  obtain ⟨ps, h1, h2, h3⟩ := t q hq
  refine ⟨ps, by rw [drop_out (x.ext.out h1 fun _ z => nomatch z)]; exact h1, h2, fun pos cv hc => ?_⟩
  obtain ⟨c, e1, e2⟩ := h3 pos cv hc
  exact ⟨c, e1, by rw [drop_out (x.code ok e2)]; exact e2⟩
end
section
variable {K : PySem.W.Frag} {mg : Str → Option Value} {T : List (Addr × Str)} {tb : Nat → Option LI} {P : Program} {w : World} {H H' : Hp} {hp : Heap} {p : Addr → Bool} {m m' : List Addr} {h h' : Os}
theorem ro_out {a : Addr} {o : O} (x : CellsP H p) (ok : HOk P w H hp) (r : RO (ctOf K mg T tb) H m a o) : p a = false := by
  cases o with
  | lst xs => obtain ⟨_, e, _⟩ := r; exact x.ext.out e fun _ z => nomatch z
  | dic xs => obtain ⟨_, e, _⟩ := r; exact x.ext.out e fun _ z => nomatch z
  | diT xs => obtain ⟨_, e, _⟩ := r; exact x.ext.out e fun _ z => nomatch z
  | ins c fs => obtain ⟨_, _, _, _, e, _⟩ := r; exact x.ext.out e fun _ z => nomatch z
  | clo c fs => obtain ⟨⟨o, e, F, b, e1⟩, _⟩ := r; subst e1; exact x.lam ok e
  | dead => obtain ⟨o, e, F, b, e1⟩ := r; subst e1; exact x.lam ok e
theorem ex1_drop (x : ExtAt H p) : Ex1 H m (drop H p) m := ⟨⟨[], by simp⟩, fun a xs e => by rw [drop_out (x.out e fun _ z => nomatch z)]; exact e, fun a o u e => by rw [drop_out (x.out e fun _ z => nomatch z)]; exact e⟩
def noClo : O → Bool
  | .clo _ _ => false
  | _ => true
theorem ro_drop {a : Addr} {o : O} (x : CellsP H p) (ok : HOk P w H hp) (n : noClo o = true) (r : RO (ctOf K mg T tb) H m a o) : RO (ctOf K mg T tb) (drop H p) m a o := by
  have ha := ro_out x ok r
  have x1 : Ex1 H m (drop H p) m := ex1_drop x.ext
  cases o with
  | lst xs => obtain ⟨vs, e, r⟩ := r; exact ⟨vs, by rw [drop_out ha, e], r.mono1 x1⟩
  | dic xs => obtain ⟨vs, e, r⟩ := r; exact ⟨vs, by rw [drop_out ha, e], r.mono1 x1⟩
  | diT xs => obtain ⟨vs, e, r⟩ := r; exact ⟨vs, by rw [drop_out ha, e], r.mono1 x1⟩
  | ins c fs => obtain ⟨Ca, dx, es, e0, e, r⟩ := r; exact ⟨Ca, dx, es, e0, by rw [drop_out ha, e], r.mono1 x1⟩
  | clo c fs => cases n
  | dead => obtain ⟨o, e, d⟩ := r; exact ⟨o, by rw [drop_out ha, e], d⟩
def kill1 : O → O
  | .clo _ _ => .dead
  | o => o
def kill (h : Os) : Os := h.map kill1
theorem kill1_no : ∀ o, noClo (kill1 o) = true := fun o => by cases o <;> rfl
theorem kill_len (h : Os) : (kill h).length = h.length := by unfold kill; simp
theorem ro_kill {C : Ct} {a : Addr} {o : O} (r : RO C H m a o) : RO C H m a (kill1 o) := by
  cases o with
  | clo c fs => exact r.1
  | _ => exact r
theorem hr_kill {C : Ct} (r : HR C H m h) : HR C H m (kill h) := ⟨by rw [r.len, kill_len], r.nd, fun n a o e1 e2 => by
  unfold kill at e2
  rw [List.getElem?_map] at e2
  obtain ⟨o', e3, e4⟩ := Option.map_eq_some_iff.mp e2
  subst e4
  exact ro_kill (r.obj n a o' e1 e3)⟩
/-- a heap with no closure, without cells -/
theorem hr_drop (x : CellsP H p) (ok : HOk P w H hp) (n : h.all noClo = true) (r : HR (ctOf K mg T tb) H m h) : HR (ctOf K mg T tb) (drop H p) m h :=
  ⟨r.len, r.nd, fun i a o e1 e2 => ro_drop x ok (List.all_eq_true.mp n o (List.mem_of_getElem? e2)) (r.obj i a o e1 e2)⟩
theorem kill_no (h : Os) : (kill h).all noClo = true := by
  unfold kill
  rw [List.all_map, List.all_eq_true]
  exact fun o _ => kill1_no o
/-- the closures of h0 stand again -/
def zipBack : Os → Os → Os
  | .clo id caps :: h0, _ :: h => .clo id caps :: zipBack h0 h
  | _ :: h0, o :: h => o :: zipBack h0 h
  | _, h => h
theorem zipBack_len : ∀ (h0 h : Os), (zipBack h0 h).length = h.length
  | [], h => by cases h <;> rfl
  | o :: h0, [] => by cases o <;> rfl
  | o :: h0, q :: h => by cases o <;> simp [zipBack, zipBack_len h0 h]
theorem zipBack_get : ∀ (h0 h : Os) (n : Nat) (o : O), (zipBack h0 h)[n]? = some o → h[n]? = some o ∨ ∃ id caps, o = .clo id caps ∧ h0[n]? = some o
  | [], h, n, o, e => by
    left
    cases h <;> exact e
  | a :: h0, [], n, o, e => by cases a <;> exact .inl e
  | a :: h0, q :: h, 0, o, e => by
    cases a with
    | clo id caps => simp [zipBack] at e; exact .inr ⟨id, caps, e.symm, by simp [e]⟩
    | _ => simp [zipBack] at e; exact .inl (by simp [e])
  | a :: h0, q :: h, n + 1, o, e => by
    have e' : (zipBack h0 h)[n]? = some o := by cases a <;> simpa [zipBack] using e
    rcases zipBack_get h0 h n o e' with z | z
    · exact .inl (by simpa using z)
    · exact .inr (by simpa using z)
def back {α : Type} (h0 : Os) (r : Rs α) : Rs α := match r with
  | .ok u h => .ok u (zipBack h0 h)
  | .exc c h => .exc c (zipBack h0 h)
  | .bad => .bad
theorem hr_back {C : Ct} (r0 : HR C H m h) (r : HR C H' m' h') (x : Ex0 H m H' m') : HR C H' m' (zipBack h h') :=
  ⟨by rw [r.len, zipBack_len], r.nd, fun n a o e1 e2 => by
    rcases zipBack_get h h' n o e2 with z | ⟨id, caps, e, z⟩
    · exact r.obj n a o e1 z
    · subst e
      have hn : n < m.length := by rw [r0.len]; exact (List.getElem?_eq_some_iff.mp z).1
      obtain ⟨t, et⟩ := x.pre
      rw [et, List.getElem?_append_left hn] at e1
      have q := r0.obj n a _ e1 z
      obtain ⟨⟨o, e4, d⟩, l⟩ := q
      obtain ⟨φ, e5⟩ := C.De a o d
      subst e5
      exact ⟨⟨_, x.ext _ _ e4, d⟩, C.Lm _ _ _ _ _ _ _ x l⟩⟩
end
end SD
namespace SD
open PySem PySem.Spec PyProof.Rows L2 LamX NdefX

/-! ### what a lambda promises -/
abbrev CloU := List U → FnU
def spL (C : Ct) (np : Nat) (fn : CloU) : List (Option V) → Sp := fun ws vs H Q E => ∃ m us wv caps h, ws = wv.map some ∧ RUs C.K C.mg H m wv caps ∧ RUs C.K C.mg H m vs us ∧ LamX.Tabs C.T H ∧ HR C H m h ∧ us.length = np ∧ PoE C E H m (fn caps us h) Q
/-- the promise of the lambda id -/
def CloOk (C : Ct) (P : Program) (w : World) (base : Heap) (k : Nat) (li : LI) (fn : CloU) : Prop :=
  ∀ (f : Addr) (qual : Str) (cl : List (Str × Addr)) (c : Addr), LOk P w C.K C.mg base (L2.CX P w) k f (mkF li qual cl c) li.body li.ps li.fr (spL C li.ps.length fn)
theorem CloOk.mono {C : Ct} {P : Program} {w : World} {base : Heap} {j k : Nat} {li : LI} {fn : CloU} (o : CloOk C P w base j li fn) (h : j ≤ k) : CloOk C P w base k li fn := fun f q cl c => (o f q cl c).mono h
open Classical in
noncomputable def pOf (cl : List (Str × Addr)) : Addr → Bool := fun b => decide (∃ y, cl.lookup y = some b)
theorem pOf_iff {cl : List (Str × Addr)} {b : Addr} : pOf cl b = true ↔ ∃ y, cl.lookup y = some b := by unfold pOf; simp

/-! ### a closure is called -/
def cloAt (ρ : En) (i : Nat) : Option Nat := match ρ[i]? with
  | some (some (.ref n)) => some n
  | _ => none
def isClo (h : Os) (n : Nat) : Option (Nat × List U) := match h[n]? with
  | some (.clo id caps) => some (id, caps)
  | _ => none
def cloGo (n : Nat) (fnc : Nat → CloU) (np : Nat → Option Nat) : FnU := fun us h1 => match isClo h1 n with
  | some (id, caps) => if np id = some us.length then back h1 (fnc id caps us (kill h1)) else .bad
  | none => .bad
def mClo (i : Nat) (fnc : Nat → CloU) (np : Nat → Option Nat) (g : AM) : EM := fun ρ h => match cloAt ρ i with
  | some n => match isClo h n with
    | some _ => (g ρ h).bind (cloGo n fnc np)
    | none => .bad
  | none => .bad
theorem cloAt_ok {ρ : En} {i n : Nat} (e : cloAt ρ i = some n) : ρ[i]? = some (some (.ref n)) := by
  unfold cloAt at e
  split at e
  · rename_i k h; cases e; exact h
  · cases e
theorem isClo_ok {h : Os} {n id : Nat} {caps : List U} (e : isClo h n = some (id, caps)) : h[n]? = some (.clo id caps) := by
  unfold isClo at e
  split at e
  · rename_i k h; cases e; exact h
  · cases e
theorem RO.ntbl {C : Ct} {H : Hp} {m : List Addr} {a : Addr} {o : O} (r : RO C H m a o) {oo : HO} (e : H a = some oo) (ps : Array Value) : oo ≠ .tbl ps := fun z => by
  subst z
  cases o with
  | lst xs => obtain ⟨_, e1, _⟩ := r; rw [e] at e1; cases e1
  | dic xs => obtain ⟨_, e1, _⟩ := r; rw [e] at e1; cases e1
  | diT xs => obtain ⟨_, e1, _⟩ := r; rw [e] at e1; cases e1
  | ins c fs => obtain ⟨_, _, _, _, e1, _⟩ := r; rw [e] at e1; cases e1
  | clo c fs => obtain ⟨⟨o, e1, d⟩, _⟩ := r; obtain ⟨φ, e2⟩ := C.De _ _ d; subst e2; rw [e] at e1; cases e1
  | dead => obtain ⟨o, e1, d⟩ := r; obtain ⟨φ, e2⟩ := C.De _ _ d; subst e2; rw [e] at e1; cases e1
section
variable {K : PySem.W.Frag} {mg : Str → Option Value} {T : List (Addr × Str)} {tb : Nat → Option LI} {P : Program} {w : World} {H H' : Hp} {hp : Heap} {p : Addr → Bool} {m m' : List Addr} {h h' : Os}
/-- behind the call of a closure: from the heap without its cells to the one with them -/
theorem ext_lift (x0 : CellsP H p) (ok : HOk P w H hp) (n : ∀ b, p b = true → H' b = none) (x : Ext T (drop H p) m H' m') (th : ∀ a ∈ m', ∃ o, H' a = some o) : Ext T H m (lift H' H p) m' ∧ Ex0 H' m' (lift H' H p) m' := by
  have out : ∀ {b o}, H' b = some o → p b = false := fun {b o} e => some_false fun z => by rw [n b z] at e; cases e
  have to : ∀ {b o}, H' b = some o → lift H' H p b = some o := fun {b o} e => by rw [lift_out (out e)]; exact e
  refine ⟨⟨x.pre, fun a o e n1 n2 => ?_, fun a xs e => ?_, fun a o u e => ?_, fun a φ e => ?_, fun a e => ?_, fun a ha => ?_, fun t => ?_⟩, ⟨⟨[], by simp⟩, fun a xs e => to e, fun a o u e => to e, fun a φ e => to e⟩⟩
  · cases hb : p a with
    | true => rw [lift_in hb]; exact e
    | false => rw [lift_out hb]; exact x.oth a o (by rw [drop_out hb]; exact e) n1 n2
  · have hb := x0.ext.out e fun _ z => nomatch z
    rw [lift_out hb]; exact x.tup a xs (by rw [drop_out hb]; exact e)
  · have hb := x0.ext.out e fun _ z => nomatch z
    rw [lift_out hb]; exact x.frz a o u (by rw [drop_out hb]; exact e)
  · cases hb : p a with
    | true => rw [lift_in hb]; exact e
    | false => rw [lift_out hb]; exact x.ext a φ (by rw [drop_out hb]; exact e)
  · cases hb : p a with
    | true => rw [lift_in hb]; exact e
    | false => rw [lift_out hb]; exact x.stay a (by rw [drop_out hb]; exact e)
  · rcases x.new a ha with z | z
    · exact .inl z
    · cases hb : p a with
      | true =>
        obtain ⟨o, e⟩ := th a ha
        rw [n a hb] at e
        cases e
      | false => rw [drop_out hb] at z; exact .inr z
  · have t2 := x.tbl (x0.tabs ok t)
    exact t2.ext fun b o e => to e
/-- the cells of a closure -/
theorem lam_cells {li : LI} {a : Addr} {caps : List U} {qual : Str} {cl : List (Str × Addr)} {c : Addr} {ws : List V} (l : LamAt K mg li H m a caps qual cl c ws) : CellsP H (pOf cl) := fun b hb => by
  obtain ⟨y, e⟩ := pOf_iff.mp hb
  exact l.all y b e
theorem lam_cellsAt {li : LI} {a : Addr} {caps : List U} {qual : Str} {cl : List (Str × Addr)} {c : Addr} {ws : List V} (l : LamAt K mg li H m a caps qual cl c ws) (ok : HOk P w H hp) : CellsAt cl li.fr (ws.map some) hp (drop H (pOf cl)) := by
  refine ⟨by rw [List.length_map, l.rs.length, l.len], fun y b e => ⟨drop_in (pOf_iff.mpr ⟨y, e⟩), ?_⟩, l.inj, fun i y e => ?_⟩
  · obtain ⟨o, v, e1, e2⟩ := l.all y b e
    exact ⟨v, o, cellX_at ok e1, e2⟩
  · obtain ⟨b, e0, k⟩ := l.has i y e
    refine ⟨b, e0, fun v ev => ?_⟩
    rw [List.getElem?_map] at ev
    obtain ⟨v', e1, e2⟩ := Option.map_eq_some_iff.mp ev
    cases e2
    obtain ⟨o, u, e3, e4, rv⟩ := k v e1
    exact ⟨u, rv, o, cellX_at ok e3, e4⟩
end
section
variable {K : PySem.W.Frag} {mg : Str → Option Value} {T : List (Addr × Str)} {tb : Nat → Option LI} {X : Cx} {W : WX} {k j : Nat} {e : Expr} {es : List Expr} {g : AM} {p pos : Pos} {x : Str} {fnc : Nat → CloU} {np : Nat → Option Nat}
theorem ie_clo {i : Nat} (o : XOk (ctOf K mg T tb) X W k) (hk : j ≤ k) (hL : ∀ id li, tb id = some li → CloOk (ctOf K mg T tb) X.prog X.w X.base j li (fnc id)) (hnp : ∀ id li, tb id = some li → np id = some li.ps.length)
    (hN : X.N[i]? = some x) (hv : Vis X.env.scope x) (ha : PA X (e :: es) (tMA (ctOf K mg T tb) W g))
    (hd : (x == ("__debug__" : Str)) = false := by decide) (hcd : (x == ("__classdict__" : Str)) = false := by decide)
    (he : starEach (e :: es) X.env = (false, eval e X.env) :: starEach es X.env := by rfl) (hpl : (backTo pos (starEach es X.env)).any (·.1) = false := by rfl) :
    PE X (.Call (.Name x p) (e :: es) [] pos) (tM (ctOf K mg T tb) W (mClo i fnc np g)) := by
  refine ⟨fun pins s σ H Q I ⟨m, ρ, h, st, q⟩ => ?_⟩
  unfold mClo at q
  split at q
  · rename_i n en
    split at q
    · rename_i ic eic
      obtain ⟨id0, caps0⟩ := ic
      have en := cloAt_ok en
      obtain ⟨v, hs, rv⟩ := st.rs i _ en
      cases rv with
      | @ref _ f hmn =>
        have r0 := st.hr.obj n f _ hmn (isClo_ok eic)
        obtain ⟨⟨_, ef, F0, b0, rfl⟩, li0, qual0, cl0, c0, ws0, et0, l0⟩ := r0
        refine wpAny_Call_Name_kw (thn ((pe_var (pos := p) hN hv hd hcd).run pins s σ H (fun v H1 => v = .ref f ∧ H1 = H) I ⟨.ref f, hs, rfl, rfl⟩) fun u s1 ⟨v, H1, I1, r1, q1⟩ => ?_)
        obtain ⟨ev, eH⟩ := q1
        subst ev
        rw [eH] at I1
        obtain rfl : u = Value.ref f := r1
        have fnAt : ∀ {H2 : Hp} {s2 : Shared} {F : NF} {b : Expr}, Inv X pins σ H2 s2 → H2 f = some (LamO f F b) → PySem.W.FnAt f s2.heap := fun {H2 s2 F b} J z => by
          obtain ⟨od, sl, pm, ctv, ho⟩ := lamO_at J.hok z
          exact ⟨_, od, _, sl, ho⟩
        have key : tMA (ctOf K mg T tb) W g σ H (fun vs H2 => ∃ m2 us h2, Ext T H m H2 m2 ∧ Sta (ctOf K mg T tb) H2 m2 σ ρ h2 ∧ RUs K mg H2 m2 vs us ∧ PoE (ctOf K mg T tb) (WE W σ) H2 m2 (cloGo n fnc np us h2) Q) :=
          tMA_then (g := cloGo n fnc np) st q fun vs H2 m2 us h2 x2 st2 ru q2 => ⟨m2, us, h2, x2, st2, ru, q2⟩
        refine PySem.W.callWith_F (first := []) (fnAt I1 l0.at_) (thn (ha.run pos pins s1 σ H _ I1 key) fun us' s2 ⟨vs, H2, I2, r, m2, us, h2, x2, st2, ru, q2⟩ => ⟨fnAt I2 (x2.ext _ _ l0.at_), ?_⟩) he hpl
        show wpAny _ _ (call (.ref f) us') _ _ _
        unfold cloGo at q2
        split at q2
        · rename_i id caps eid
          split at q2
          · rename_i hlen
            have hm2 : m2[n]? = some f := by
              obtain ⟨t, et⟩ := x2.pre
              rw [et, List.getElem?_append_left (List.getElem?_eq_some_iff.mp hmn).1]
              exact hmn
            have r2 := st2.hr.obj n f _ hm2 (isClo_ok eid)
            obtain ⟨⟨_, ef2, F2, b2, rfl⟩, li, qual, cl, c, ws, et, l⟩ := r2
            have hok2 : HOk X.prog X.w H2 s2.heap := I2.hok
            have cp := lam_cells l
            have hrm : ∀ a ∈ m2, ∃ oo, H2 a = some oo := fun a z => st2.hr.there z
            have e0 := env0_drop I2.env0 cp.ext
            have hnp' := hnp id li et
            rw [hnp'] at hlen
            have hK := o.K
            have hmg := o.mg
            have hr0 := hr_drop cp hok2 (kill_no h2) (hr_kill st2.hr)
            have x1 : Ex1 H2 m2 (drop H2 (pOf cl)) m2 := ex1_drop cp.ext
            have run := (hL id li et f qual cl c).run X.A X.stack s2 (drop H2 (pOf cl)) us' vs (ws.map some)
              (fun v H' => (∀ b, pOf cl b = true → H' b = none) → Q v (lift H' H2 (pOf cl))) (fun cls d H' => (∀ b, pOf cl b = true → H' b = none) → WE W σ cls d (lift H' H2 (pOf cl)))
              (o.room.mono hk) (by rw [← hK, ← hmg]; exact e0) (by rw [drop_out (cp.lam hok2 l.at_)]; exact l.at_) ((drop_out (cp.code hok2 l.code)).trans l.code) (lam_cellsAt l hok2) r
              ⟨m2, us, ws, caps, kill h2, rfl, l.rs.mono1 x1, ru.mono1 x1, cp.tabs hok2 st2.tb, hr0, (Option.some.inj hlen).symm, ?_⟩
            · refine wpAny_call (codeAny_mono run fun r s' hq => ?_)
              have hq := cr_lift I2.env0 cp.ext hq
              cases r with
              | error e => exact passAt o.tk σ pins H2 s2 e s' I2 hq
              | ok fl =>
                cases fl with
                | ret u => exact I2.after hq
                | next => exact False.elim hq
                | brk => exact False.elim hq
                | cont => exact False.elim hq
            · cases er : fnc id caps us (kill h2) with
              | bad => rw [er] at q2; exact q2
              | exc cc h3 =>
                rw [er] at q2
                intro H' m' cls x' hr' hc nn
                obtain ⟨y1, y2⟩ := ext_lift cp hok2 nn x' fun a ha => hr'.there ha
                refine q2 _ m' cls y1 (hr_back st2.hr ?_ y1.ex0) hc
                exact hr'.keep0 y2 fun a ha => lift_out (some_false fun z => by obtain ⟨oo, e9⟩ := hr'.there ha; rw [nn a z] at e9; cases e9)
              | ok uu h3 =>
                rw [er] at q2
                intro v H' m' x' hr' rv nn
                obtain ⟨y1, y2⟩ := ext_lift cp hok2 nn x' fun a ha => hr'.there ha
                refine q2 v _ m' y1 (hr_back st2.hr ?_ y1.ex0) (rv.mono0 y2)
                exact hr'.keep0 y2 fun a ha => lift_out (some_false fun z => by obtain ⟨oo, e9⟩ := hr'.there ha; rw [nn a z] at e9; cases e9)
          · exact q2.elim
        · exact q2.elim
    · exact q.elim
  · exact q.elim
end
end SD
namespace SD
open PySem PySem.Spec PyProof.Rows L2 LamX NdefX

/-! ### a call whose callee sees cells that the caller does not track -/
section
variable {P : Program} {w : World} {K : PySem.W.Frag} {mg : Str → Option Value} {base : Heap} {A : Around} {outer : List Env} {s : Shared} {H G : Hp} {p : Addr → Bool}
theorem env0_lift (e0 : Env0 P w K mg base A outer s H) (n : ∀ b, p b = true → H b = none) (x : ExtAt G p) (k : ∀ b o, p b = true → G b = some (CellX b o) → s.heap.get? b = some o) (nf : ∀ b, p b = true → b ∉ frs outer) (nb : ∀ b, p b = true → base.get? b = none) : Env0 P w K mg base A outer s (lift H G p) :=
  ⟨e0.frames, e0.mod, fun b o e => ⟨(e0.bs b o e).1, by
    cases h : p b with
    | true => rw [nb b h] at e; cases e
    | false => rw [lift_out h]; exact (e0.bs b o e).2⟩, e0.bsz, e0.funs, fun b hb => by
    cases h : p b with
    | true => exact absurd hb (nf b h)
    | false => rw [lift_out h]; exact e0.frf b hb, hok_lift e0.hok x n k, e0.bare⟩
theorem cr_drop {Q : VK} {E : XK} (n : ∀ b, p b = true → H b = none) (x : ExtAt G p) (k : ∀ b o, p b = true → G b = some (CellX b o) → s.heap.get? b = some o) {r : Result} {s' : Shared}
    (c : CR (L2.CX P w) outer P w (lift H G p) s (fun v H' => (∀ b, p b = true → H' b = G b) ∧ ∀ h, HOk P w H' h → Q v (drop H' p)) (fun cls d H' => (∀ b, p b = true → H' b = G b) ∧ ∀ h, HOk P w H' h → E cls d (drop H' p)) r s') : CR (L2.CX P w) outer P w H s Q E r s' := by
  have out : ∀ {b o}, H b = some o → p b = false := fun {b o} e => some_false fun z => by rw [n b z] at e; cases e
  have none_of : ∀ {b}, p b = false → H b = none → lift H G p b = none := fun {b} h e => by rw [lift_out h]; exact e
  cases r with
  | error e =>
    obtain ⟨a, B, H', cls, d, rfl, fl, ok, ub, na, os, bare, q1, q2⟩ := c
    have xa : ExtAt H' p := fun b hb => by rw [q1 b hb]; exact x b hb
    refine ⟨a, B, drop H' p, cls, d, rfl, fl, hok_drop ok xa, ⟨fun b o e nn hb => ?_, ub.slot, fun b o e nn => ?_, ub.there, fun b xs e => ?_, fun b o u e => ?_, fun b ps e => ?_⟩, ?_, os, bare, q2 _ ok⟩
    · cases hp : p b with
      | true =>
        obtain ⟨o', e'⟩ := x b hp
        have e2 := k b o' hp e'
        rw [e] at e2
        cases e2
        exact cellX_at ok (by rw [q1 b hp]; exact e')
      | false => exact ub.keep b o e (none_of hp nn) hb
    · cases hp : p b with
      | true => exact drop_in hp
      | false => rw [drop_out hp]; exact ub.free b o e (none_of hp nn)
    · rw [drop_out (out e)]; exact ub.tups b xs (by rw [lift_out (out e)]; exact e)
    · rw [drop_out (out e)]; exact ub.frzs b o u (by rw [lift_out (out e)]; exact e)
    · rw [drop_out (out e)]; exact ub.tbls b ps (by rw [lift_out (out e)]; exact e)
    · cases hp : p a with
      | true => exact drop_in hp
      | false => rw [drop_out hp]; exact na
  | ok fl =>
    cases fl with
    | ret u =>
      obtain ⟨v, H', os, bare, un, hok, rv, q1, q2⟩ := c
      have xa : ExtAt H' p := fun b hb => by rw [q1 b hb]; exact x b hb
      have same : ∀ b o, s.heap.get? b = some o → p b = true → s'.heap.get? b = some o := fun b o e hp => by
        obtain ⟨o', e'⟩ := x b hp
        have e2 := k b o' hp e'
        rw [e] at e2
        cases e2
        exact cellX_at hok (by rw [q1 b hp]; exact e')
      refine ⟨v, drop H' p, os, bare, ⟨fun b o e nn hb hx => ?_, fun b o e nn hb hx => ?_, fun b o e nn hx => ?_, un.there, fun b xs e => ?_, fun b o u e => ?_, fun b ps e => ?_⟩, hok_drop hok xa, rv, q2 _ hok⟩
      · cases hp : p b with
        | true => exact same b o e hp
        | false => exact un.keep b o e (none_of hp nn) hb hx
      · cases hp : p b with
        | true => exact ⟨o.slots, same b o e hp⟩
        | false => exact un.slot b o e (none_of hp nn) hb hx
      · cases hp : p b with
        | true => exact drop_in hp
        | false => rw [drop_out hp]; exact un.free b o e (none_of hp nn) hx
      · rw [drop_out (out e)]; exact un.tups b xs (by rw [lift_out (out e)]; exact e)
      · rw [drop_out (out e)]; exact un.frzs b o u (by rw [lift_out (out e)]; exact e)
      · rw [drop_out (out e)]; exact un.tbls b ps (by rw [lift_out (out e)]; exact e)
    | next => exact c
    | brk => exact c
    | cont => exact c
end

/-! ### f(e1, e2, lambda ..: ..) -/
def capsOf (ρ : En) : List Nat → Option (List U)
  | [] => some []
  | j :: js => match ρ[j]? with
    | some (some u) => (capsOf ρ js).map (u :: ·)
    | _ => none
def finLam (h0 : Os) (r : Rs U) : Rs U := match r with
  | .ok u h => if (h.set h0.length .dead).all noClo = true then .ok u (zipBack h0 (h.set h0.length .dead)) else .bad
  | .exc c h => if (h.set h0.length .dead).all noClo = true then .exc c (zipBack h0 (h.set h0.length .dead)) else .bad
  | .bad => .bad
def lamGo (fn : FnU) (id : Nat) (caps : List U) : FnU := fun us h2 => gc h2.length (finLam h2 (fn (us ++ [.ref h2.length]) (kill h2 ++ [.clo id caps])))
def mCallLam (fn : FnU) (id : Nat) (js : List Nat) (f1 f2 : EM) : EM := fun ρ h => match capsOf ρ js with
  | some caps => (f1 ρ h).bind fun u1 h1 => (f2 ρ h1).bind fun u2 h2 => lamGo fn id caps [u1, u2] h2
  | none => .bad
theorem capsOf_ok {C : Ct} {H : Hp} {m : List Addr} {σ : L2.St} {ρ : En} {h : Os} (s : Sta C H m σ ρ h) : ∀ {js : List Nat} {caps : List U}, capsOf ρ js = some caps → ∃ ws : List V, js.map (slotAt σ) = ws.map some ∧ RUs C.K C.mg H m ws caps
  | [], caps, e => by cases e; exact ⟨[], rfl, .nil⟩
  | j :: js, caps, e => by
    unfold capsOf at e
    split at e
    · rename_i u hu
      obtain ⟨cs, e1, e2⟩ := Option.map_eq_some_iff.mp e
      subst e2
      obtain ⟨ws, h1, h2⟩ := capsOf_ok s e1
      obtain ⟨v, h3, h4⟩ := s.rs j u hu
      exact ⟨v :: ws, by rw [List.map_cons, List.map_cons, h1, slotAt_of h3], .cons h4 h2⟩
    · cases e
def tLamN (T : List (Addr × Str)) (P : Addr) (nm : Str) (mk : Addr → NF) (b : Expr) : TE := fun σ H Q => Tabs T H ∧ ∀ (f c' : Addr) (H1 : Hp), ExtN H H1 → (∀ b, H1 b = Option.none → H b = Option.none) → Tabs T H1 → H f = none → H1 f = some (LamO f (mk c') b) → H1 c' = some (CodeO c' nm) → Q (.ref f) H1
section
variable {X : Cx} {T : List (Addr × Str)} {c P : Addr} {params : Arguments} {body : Expr} {scope : Scope} {pos : Pos}
theorem pe_lam (TB : TabB X.base X.mg c P) (hcode : X.env.code = .ref c) (hm : (P, X.env.qual ++ "<lambda>") ∈ T) (hu : ∀ p ∈ T, p.1 = P → p.2 = X.env.qual ++ "<lambda>") (hdef : defaultsOf params X.env = ([], [])) (hfree : ∀ y ∈ scope.names, y.2 = .free → X.env.scope.names.lookup y.1 = some .cell ∨ X.env.scope.names.lookup y.1 = some .free) :
    PE X (.Lambda params body scope pos) (tLamN T P (X.env.qual ++ "<lambda>") (fun c' => ⟨"<lambda>", X.env.qual ++ "<lambda>", params, [], scope, cloFrom X.env.cells scope.names [], c'⟩) body) := by
  refine ⟨fun pins s σ H Q I ⟨hT, q⟩ => ?_⟩
  have hfr : ∀ y ∈ scope.names, y.2 = .free → ∃ c, X.env.cells.lookup y.1 = some c := fun y hy e => (hfree y hy e).elim (fun z => I.ok.has _ (.inl z)) fun z => I.ok.has _ (.inr z)
  exact lam_new I TB hcode hm hu hT hdef hfr fun f c' H1 s' I1 x1 x2 T1 n a1 a2 => ⟨.ref f, H1, I1, rfl, q f c' H1 x1 x2 T1 n a1 a2⟩
end
section
variable {K : PySem.W.Frag} {mg : Str → Option Value} {T : List (Addr × Str)} {tb : Nat → Option LI} {H H1 H' : Hp} {m m' : List Addr} {h h' : Os} {p : Addr → Bool} {f : Addr}
/-- the lambda is made: no value changes -/
theorem ext_made (x : ExtN H H1) (st : ∀ b, H1 b = none → H b = none) (t : Tabs T H1) : Ext T H m H1 m :=
  ⟨⟨[], by simp⟩, fun a o e _ n => x a o e n, fun a xs e => x a _ e (fun _ z => nomatch z), fun a o u e => x a _ e (fun _ z => nomatch z), fun a φ e => x a _ e (fun _ z => nomatch z), fun a e z => e (st a z), fun a h => .inl h, fun _ => t⟩
theorem hr_made {C : Ct} (r : HR C H m h) (x : ExtN H H1) (y : Ext C.T H m H1 m) : HR C H1 m h := r.keep y fun a ha => by
  obtain ⟨n, hn⟩ := List.mem_iff_getElem?.mp ha
  have hl : n < h.length := by rw [← r.len]; exact (List.getElem?_eq_some_iff.mp hn).1
  have ro := r.obj n a h[n] hn (List.getElem?_eq_getElem hl)
  obtain ⟨o, e⟩ := ro.there
  rw [e]
  exact x a o e (RO.ntbl ro e)
/-- behind the call: without the cells again -/
theorem ext_cut {G : Hp} {Pr : Program} {w : World} {hp : Heap} (n : ∀ b, p b = true → H1 b = none) (x : Ext T H m H1 m) (y : Ext T (lift H1 G p) (m ++ [f]) H' m') (hf : H f = none) (same : ∀ b, p b = true → H' b = G b) (cp : CellsP H' p) (ok : HOk Pr w H' hp) (th : ∀ a ∈ m', p a = false) : Ext T H m (drop H' p) m' := by
  have out : ∀ {b}, H b ≠ none → p b = false := fun {b} e => some_false fun z => x.stay b e (n b z)
  have up : ∀ {b o}, H1 b = some o → lift H1 G p b = some o := fun {b o} e => by rw [lift_out (some_false fun z => by rw [n b z] at e; cases e)]; exact e
  refine ⟨?_, fun a o e n1 n2 => ?_, fun a xs e => ?_, fun a o u e => ?_, fun a φ e => ?_, fun a e => ?_, fun a ha => ?_, fun t => ?_⟩
  · obtain ⟨t, et⟩ := y.pre
    exact ⟨[f] ++ t, by rw [et]; simp⟩
  · rw [drop_out (out (by rw [e]; simp))]
    refine y.oth a o (up (x.oth a o e n1 n2)) (fun z => ?_) n2
    rcases List.mem_append.mp z with z | z
    · exact n1 z
    · simp at z; subst z; rw [hf] at e; cases e
  · rw [drop_out (out (by rw [e]; simp))]; exact y.tup a xs (up (x.tup a xs e))
  · rw [drop_out (out (by rw [e]; simp))]; exact y.frz a o u (up (x.frz a o u e))
  · rw [drop_out (out (by rw [e]; simp))]; exact y.ext a φ (up (x.ext a φ e))
  · rw [drop_out (out e)]
    refine y.stay a fun z => x.stay a e ?_
    rw [lift_out (out e)] at z
    exact z
  · rcases y.new a ha with z | z
    · rcases List.mem_append.mp z with z | z
      · exact .inl z
      · simp at z; subst z; exact .inr hf
    · right
      rw [lift_out (th a ha)] at z
      cases e : H a with
      | none => rfl
      | some o => exact absurd z (x.stay a (by rw [e]; simp))
  · have t1 := x.tbl t
    have t2 : Tabs T (lift H1 G p) := t1.ext fun b o e => up e
    exact cp.tabs ok (y.tbl t2)
end
end SD
namespace SD
open PySem PySem.Spec PyProof.Rows L2 LamX NdefX
section
variable {K : PySem.W.Frag} {mg : Str → Option Value} {T : List (Addr × Str)} {tb : Nat → Option LI} {X : Cx} {W : WX} {k j : Nat}
/-- f(e1, e2, lambda ..: ..) -/
theorem ie_callLam {li : LI} {x : Str} {g : Addr} {fd : FuncData} {ps : List Str} {fn : FnU} {f1 f2 : EM} {e1 e2 : Expr} {c P : Addr} {id : Nat} {js : List Nat} {p lpos pos : Pos} (o : XOk (ctOf K mg T tb) X W k) (F : FnOk X.prog X.w X.K X.mg X.base (L2.CX X.prog X.w) j g fd ps (spM (ctOf K mg T tb) 3 fn)) (hk : j ≤ k) (hg : Gl X x) (hm : X.mg x = some (.ref g)) (hkp : PySem.W.keepIn X.K (.ref g) = true) (hb : Binds X.K fd ps [])
    (hid : tb id = some li) (h1 : PE X e1 (tM (ctOf K mg T tb) W f1)) (h2 : PE X e2 (tM (ctOf K mg T tb) W f2))
    (TB : TabB X.base X.mg c P) (hcode : X.env.code = .ref c) (hmT : (P, X.env.qual ++ "<lambda>") ∈ T) (hu : ∀ p ∈ T, p.1 = P → p.2 = X.env.qual ++ "<lambda>") (hdef : defaultsOf li.params X.env = ([], [])) (hfree : ∀ y ∈ li.scope.names, y.2 = .free → X.env.scope.names.lookup y.1 = some .cell ∨ X.env.scope.names.lookup y.1 = some .free)
    (hfr : ∀ y ∈ li.fr, (y, NameKind.free) ∈ li.scope.names) (hjs : js.map (fun j => X.N[j]?) = li.fr.map some) (hfn : ∀ x, X.fn x = true)
    (hdb : (x == ("__debug__" : Str)) = false := by decide) (hs1 : starEach (e1 :: [e2, .Lambda li.params li.body li.scope lpos]) X.env = (false, eval e1 X.env) :: starEach [e2, .Lambda li.params li.body li.scope lpos] X.env := by rfl) (hs2 : starEach (e2 :: [.Lambda li.params li.body li.scope lpos]) X.env = (false, eval e2 X.env) :: starEach [.Lambda li.params li.body li.scope lpos] X.env := by rfl)
    (hpl : (backTo pos (starEach [e2, .Lambda li.params li.body li.scope lpos] X.env)).any (·.1) = false := by rfl) :
    PE X (.Call (.Name x p) [e1, e2, .Lambda li.params li.body li.scope lpos] [] pos) (tM (ctOf K mg T tb) W (mCallLam fn id js f1 f2)) := by
  have ha := pa_cons h1 (pa_cons h2 (pa_cons (pe_lam (params := li.params) (body := li.body) (pos := lpos) TB hcode hmT hu hdef hfree) pa_nil (by rfl)) hs2) hs1
  refine ⟨fun pins s σ H Q I ⟨m, ρ, h, st, q⟩ => ?_⟩
  unfold mCallLam at q
  split at q
  · rename_i caps ecaps
    refine wpAny_Call_Name_kw (ld_glob I hg hm ?_ hdb)
    have key : tCons (tM (ctOf K mg T tb) W f1) (tCons (tM (ctOf K mg T tb) W f2) (tCons (tLamN T P (X.env.qual ++ "<lambda>") (fun c' => ⟨"<lambda>", X.env.qual ++ "<lambda>", li.params, [], li.scope, cloFrom X.env.cells li.scope.names [], c'⟩) li.body) tNil)) σ H
        (fun vs H1 => ∃ v1 v2 u1 u2 H2 m2 h2 f c', vs = [v1, v2, .ref f] ∧ Sta (ctOf K mg T tb) H2 m2 σ ρ h2 ∧ RU K mg H2 m2 v1 u1 ∧ RU K mg H2 m2 v2 u2 ∧ PoE (ctOf K mg T tb) (WE W σ) H2 m2 (lamGo fn id caps [u1, u2] h2) Q ∧
          ExtN H2 H1 ∧ (∀ b, H1 b = none → H2 b = none) ∧ Tabs T H1 ∧ H2 f = none ∧ H1 f = some (LamO f (mkF li (X.env.qual ++ "<lambda>") (cloFrom X.env.cells li.scope.names []) c') li.body) ∧ H1 c' = some (CodeO c' (X.env.qual ++ "<lambda>"))) := by
      refine tM_then st q fun v1 H1 m1 u1 h1 x1 st1 r1 q1 => ?_
      refine tM_then st1 q1 fun v2 H2 m2 u2 h2 x2 st2 r2 q2 => ?_
      exact ⟨st2.tb, fun f c' H3 y1 y2 t3 n3 a1 a2 => ⟨v1, v2, u1, u2, H2, m2, h2, f, c', rfl, st2, r1.mono x2, r2, q2, y1, y2, t3, n3, a1, a2⟩⟩
    refine PySem.W.callWith_K (h₀ := X.base) I.ok.mod.kin hkp (thn (ha.run pos pins s σ H _ I key) fun us s1 ⟨vs, H1, I1, r, w⟩ => ⟨I1.kIn, ?_⟩) hs1 hpl
    obtain ⟨v1, v2, u1, u2, H2, m2, h2, f, c', rfl, st2, r1, r2, q2, y1, y2, t3, n3, a1, a2⟩ := w
    have xm : Ext T H2 m2 H1 m2 := ext_made y1 y2 t3
    have hr1 : HR (ctOf K mg T tb) H1 m2 h2 := hr_made st2.hr y1 xm
    have CA := cells_of I1 (Caps.made (fr := li.fr) I1.ok hfree hfr hjs)
    obtain ⟨wv, ew, rw0⟩ := capsOf_ok st2 (js := js) ecaps
    rw [ew] at CA
    have hcl : (cloFrom X.env.cells li.scope.names [] : List (Str × Addr)) = cloFrom X.env.cells li.scope.names [] := rfl
    generalize hclg : (cloFrom X.env.cells li.scope.names [] : List (Str × Addr)) = cl at *
    have cells_sub : ∀ y b, cl.lookup y = some b → X.env.cells.lookup y = some b := fun y b e => by
      rw [← hclg] at e
      exact clo_cm (fun y hy e => (hfree y hy e).elim (fun z => I1.ok.has _ (.inl z)) fun z => I1.ok.has _ (.inr z)) e
    let pp := pOf cl
    let G : Hp := fun b => (s1.heap.get? b).map (CellX b)
    have hn : ∀ b, pp b = true → H1 b = none := fun b z => by obtain ⟨y, e⟩ := pOf_iff.mp z; exact (CA.all y b e).1
    have hx : ∀ b, pp b = true → ∃ o v, G b = some (CellX b o) ∧ o.data = .cell v := fun b z => by
      obtain ⟨y, e⟩ := pOf_iff.mp z
      obtain ⟨_, v, oo, e1, e2⟩ := CA.all y b e
      exact ⟨oo, v, by show (s1.heap.get? b).map _ = _; rw [e1]; rfl, e2⟩
    have hxe : ExtAt G pp := fun b z => let ⟨o, _, e, _⟩ := hx b z; ⟨o, e⟩
    have hkk : ∀ b o, pp b = true → G b = some (CellX b o) → s1.heap.get? b = some o := fun b o z e => by
      obtain ⟨o1, v1, e1, e2⟩ := hx b z
      have e3 : (s1.heap.get? b).map (CellX b) = some (CellX b o) := e
      obtain ⟨o', e4, e5⟩ := Option.map_eq_some_iff.mp e3
      have e6 : (fun h : Heap => h.get? b = some o') = (fun h : Heap => h.get? b = some o) := by
        unfold CellX at e5
        injection e5
      exact (congrFun e6 s1.heap).mp e4
    have above : ∀ b, pp b = true → X.s_0.heap.objs.size ≤ b ∧ b ≠ X.env.locals := fun b z => by
      obtain ⟨y, e⟩ := pOf_iff.mp z
      exact ⟨I1.ok.cab y b (hfn y) (cells_sub y b e), I1.cne y b (cells_sub y b e)⟩
    have hnb : ∀ b, pp b = true → X.base.get? b = none := fun b z => by
      cases e : X.base.get? b with
      | none => rfl
      | some o0 => exact absurd (Heap.lt_size (I1.ok.bs b o0 e).1) (Nat.not_lt.mpr (above b z).1)
    have hnf : ∀ b, pp b = true → b ∉ frs X.stack := fun b z hb => by
      rcases List.mem_cons.mp (I1.stkSub _ hb) with e | e
      · exact (above b z).2 e
      · obtain ⟨_, o0, e0, _⟩ := I1.ok.funs.mem e
        exact absurd (Heap.lt_size e0) (Nat.not_lt.mpr (above b z).1)
    have e0 := env0_lift I1.env0 hn hxe hkk hnf hnb
    have up : ∀ {b oo}, H1 b = some oo → lift H1 G pp b = some oo := fun {b oo} e => by rw [lift_out (some_false fun z => by rw [hn b z] at e; cases e)]; exact e
    have x0 : Ex0 H1 m2 (lift H1 G pp) m2 := ⟨⟨[], by simp⟩, fun _ _ e => up e, fun _ _ _ e => up e, fun _ _ e => up e⟩
    have x1 : Ex0 H1 m2 (lift H1 G pp) (m2 ++ [f]) := ⟨⟨[f], rfl⟩, fun _ _ e => up e, fun _ _ _ e => up e, fun _ _ e => up e⟩
    have lam : LamAt K mg li (lift H1 G pp) (m2 ++ [f]) f caps (X.env.qual ++ "<lambda>") cl c' wv := by
      refine ⟨up a1, up a2, (rw0.mono0 xm.ex0).mono0 x1, by rw [← rw0.length, ← CA.len, List.length_map], CA.inj, fun y b e => ?_, fun i y e => ?_⟩
      · have z : pp b = true := pOf_iff.mpr ⟨y, e⟩
        rw [lift_in z]
        exact hx b z
      · obtain ⟨b, eb, hv⟩ := CA.has i y e
        have z : pp b = true := pOf_iff.mpr ⟨y, eb⟩
        refine ⟨b, eb, fun v ev => ?_⟩
        obtain ⟨u, rv, oo, eo, ed⟩ := hv v (by rw [List.getElem?_map, ev]; rfl)
        refine ⟨oo, u, ?_, ed, rv⟩
        rw [lift_in z]
        show (s1.heap.get? b).map _ = _
        rw [eo]
        rfl
    have fm : f ∉ m2 := st2.hr.fresh n3
    have hru : HR (ctOf K mg T tb) (lift H1 G pp) (m2 ++ [f]) (kill h2 ++ [.clo id caps]) := by
      refine HR.add ((hr_kill hr1).keep0 x0 fun a ha => ?_) fm ⟨_, up a1⟩ ⟨⟨_, up a1, _, _, rfl⟩, li, _, cl, c', wv, hid, lam⟩
      obtain ⟨oo, e⟩ := hr1.there ha
      rw [up e, e]
    have hfi : (m2 ++ [f])[h2.length]? = some f := by rw [← st2.hr.len, List.getElem?_append_right (Nat.le_refl _)]; simp
    have q3 : PoE (ctOf K mg T tb) (WE W σ) H2 m2 (finLam h2 (fn ([u1, u2] ++ [.ref h2.length]) (kill h2 ++ [.clo id caps]))) Q := gc_ok (by rw [st2.hr.len]; exact q2)
    have dead : ∀ {H' : Hp} {m' : List Addr} {h3 : Os}, Ext T (lift H1 G pp) (m2 ++ [f]) H' m' → HR (ctOf K mg T tb) H' m' h3 → HR (ctOf K mg T tb) H' m' (h3.set h2.length .dead) := fun {H' m' h3} x' hr' => by
      refine ⟨by rw [hr'.len]; simp, hr'.nd, fun n a oo g1 g2 => ?_⟩
      by_cases hnn : n = h2.length
      · subst hnn
        obtain ⟨t, et⟩ := x'.pre
        rw [et, List.getElem?_append_left (List.getElem?_eq_some_iff.mp hfi).1, hfi] at g1
        cases g1
        have hl : h2.length < h3.length := by
          have := hr'.len
          rw [et, List.length_append, List.length_append, st2.hr.len] at this
          simp at this
          omega
        rw [List.getElem?_set_self hl] at g2
        cases g2
        exact ⟨_, x'.ext _ _ (up a1), _, _, rfl⟩
      · rw [List.getElem?_set_ne (Ne.symm hnn)] at g2
        exact hr'.obj n a oo g1 g2
    have same : ∀ {H' : Hp} {m' : List Addr}, Ext T (lift H1 G pp) (m2 ++ [f]) H' m' → ∀ b, pp b = true → H' b = G b := fun {H' m'} x' b z => by
      obtain ⟨oo, v, g1, g2⟩ := hx b z
      rw [g1]
      exact x'.ext _ _ (by rw [lift_in z]; exact g1)
    have cells : ∀ {H' : Hp} {m' : List Addr}, Ext T (lift H1 G pp) (m2 ++ [f]) H' m' → CellsP H' pp := fun {H' m'} x' b z => by
      rw [same x' b z]
      exact hx b z
    have outs : ∀ {H' : Hp} {m' : List Addr} {h3 : Os} {hp : Heap}, Ext T (lift H1 G pp) (m2 ++ [f]) H' m' → HR (ctOf K mg T tb) H' m' h3 → HOk X.prog X.w H' hp → ∀ a ∈ m', pp a = false := fun {H' m' h3 hp} x' hr' ok a ha => by
      obtain ⟨n, hnn⟩ := List.mem_iff_getElem?.mp ha
      have hl : n < h3.length := by rw [← hr'.len]; exact (List.getElem?_eq_some_iff.mp hnn).1
      exact ro_out (cells x') ok (hr'.obj n a h3[n] hnn (List.getElem?_eq_getElem hl))
    have sp : spM (ctOf K mg T tb) 3 fn [v1, v2, .ref f] (lift H1 G pp) (fun v H' => (∀ b, pp b = true → H' b = G b) ∧ ∀ h, HOk X.prog X.w H' h → Q v (drop H' pp)) (fun cls d H' => (∀ b, pp b = true → H' b = G b) ∧ ∀ h, HOk X.prog X.w H' h → WE W σ cls d (drop H' pp)) := by
      refine ⟨m2 ++ [f], [u1, u2, .ref h2.length], kill h2 ++ [.clo id caps], .cons ((r1.mono0 xm.ex0).mono0 x1) (.cons ((r2.mono0 xm.ex0).mono0 x1) (.cons (.ref hfi) .nil)), t3.ext fun _ _ e => up e, hru, rfl, ?_⟩
      have q3 : PoE (ctOf K mg T tb) (WE W σ) H2 m2 (finLam h2 (fn [u1, u2, .ref h2.length] (kill h2 ++ [.clo id caps]))) Q := q3
      cases er : fn [u1, u2, .ref h2.length] (kill h2 ++ [.clo id caps]) with
      | bad => rw [er] at q3; exact q3
      | exc cc h3 =>
        rw [er] at q3
        unfold finLam at q3
        dsimp only at q3
        split at q3
        · rename_i nc
          intro H' m' cls x' hr' hc
          refine ⟨same x', fun hp ok => ?_⟩
          have ec := ext_cut hn xm x' n3 (same x') (cells x') ok (outs x' hr' ok)
          exact q3 (drop H' pp) m' cls ec (hr_back st2.hr (hr_drop (cells x') ok nc (dead x' hr')) ec.ex0) hc
        · exact q3.elim
      | ok uu h3 =>
        rw [er] at q3
        unfold finLam at q3
        dsimp only at q3
        split at q3
        · rename_i nc
          intro v H' m' x' hr' ru
          refine ⟨same x', fun hp ok => ?_⟩
          have ec := ext_cut hn xm x' n3 (same x') (cells x') ok (outs x' hr' ok)
          exact q3 v (drop H' pp) m' ec (hr_back st2.hr (hr_drop (cells x') ok nc (dead x' hr')) ec.ex0) (ru.mono1 (ex1_drop (cells x').ext))
        · exact q3.elim
    have hl : us.length = ps.length := by rw [← r.length]; exact F.len _ _ _ _ sp
    have bb := hb s1 us I1.kIn (by rw [List.append_nil]; exact hl)
    rw [List.append_nil] at bb
    refine wpAny_call (codeAny_mono (F.run X.A X.stack s1 (lift H1 G pp) ⟨us, []⟩ us _ _ _ (o.room.mono hk) e0 bb r sp) fun r s' hq => ?_)
    have hq := cr_drop hn hxe hkk hq
    cases r with
    | error e => exact passAt o.tk σ pins H1 s1 e s' I1 hq
    | ok fl =>
      cases fl with
      | ret u => exact I1.after hq
      | next => exact False.elim hq
      | brk => exact False.elim hq
      | cont => exact False.elim hq
  · exact q.elim
end
end SD
namespace SD
open PySem PySem.Spec PyProof.Rows L2 LamX NdefX
/-! ### a lambda by its body -/
def runLam (n : Nat) (g : EM) : CloU := fun caps us h => gc h.length (g (us.map some ++ (caps.map some ++ List.replicate (n - us.length - caps.length) none)) h)
theorem xok_ncx {C : Ct} {P : Program} {w : World} {base : Heap} {N : List Str} {F : NF} {f : Addr} {A : Around} {outer : List Env} {s : Shared} {H : Hp} {E : XK} {k : Nat} {ps fr : List Str} (S : NScope N ps fr F.scope) (hr : Room k (A.deeper (envF F f s.heap.objs.size))) :
    XOk C (ncx (L2.CX P w) P w C.K C.mg base N F f A outer s H E) (fun cls d _ H => E cls d H) k :=
  ⟨rfl, rfl, rfl, S.nd, hr, takes_of rfl rfl rfl rfl⟩
theorem lam_def {C : Ct} {P : Program} {w : World} {base : Heap} {li : LI} {N : List Str} {k : Nat} {g : EM} (S : NScope N li.ps li.fr li.scope)
    (hb : ∀ (q : Str) (cl : List (Str × Addr)) (pm cv ctv : Value) (us : List Value), us.length = li.ps.length → bindArgs (PySem.W.kla_fn "<lambda>" q li.params li.body li.scope cl pm cv ctv) ⟨us, []⟩ = pure (li.ps.zip us))
    (hbody : ∀ (F : NF) (f : Addr) (A : Around) (outer : List Env) (s : Shared) (H : Hp) (E : XK), F.scope = li.scope → Room k (A.deeper (envF F f s.heap.objs.size)) →
      PE (ncx (L2.CX P w) P w C.K C.mg base N F f A outer s H E) li.body (tM C (fun cls d _ H => E cls d H) g)) : CloOk C P w base (k + 1) li (runLam N.length g) := by
  intro f qual cl c
  refine lok_of (N := N) S (fun pm ctv us hl => hb _ _ _ _ _ _ hl) (fun ws vs H Q E h => ?_) (fun A outer s H vs ws Q E hr hl h => ?_)
  · obtain ⟨m, us, wv, caps, h, e, rw, r, _, _, hl, _⟩ := h
    rw [r.length, hl]
  · obtain ⟨m, us, wv, caps, h, rfl, rw, r, tb, hR, hl2, p⟩ := h
    refine ⟨_, hbody _ f A outer s H E rfl hr, m, us.map some ++ (caps.map some ++ List.replicate (N.length - us.length - caps.length) none), h, ⟨?_, fun i u e => ?_, tb, hR⟩, ?_⟩
    · unfold startF
      simp only [List.length_append, List.length_map, List.length_replicate, r.length, rw.length]
    · unfold startF
      have r2 := r.append rw
      rw [← List.append_assoc, ← List.map_append] at e ⊢
      by_cases hi : i < (us ++ caps).length
      · rw [List.getElem?_append_left (by simpa using hi), List.getElem?_map] at e
        obtain ⟨u', e1, e2⟩ := Option.map_eq_some_iff.mp e
        cases e2
        obtain ⟨v, e3, r3⟩ := r2.get e1
        refine ⟨v, ?_, r3⟩
        rw [List.getElem?_append_left (by rw [List.length_map, r2.length]; exact hi), List.getElem?_map, e3]
        rfl
      · rw [List.getElem?_append_right (by rw [List.length_map]; omega), List.getElem?_replicate] at e
        split at e <;> cases e
    · unfold runLam at p
      rw [← hR.len] at p
      exact gc_ok p
/-- the words for the defs of a law -/
theorem free_ok {sc nsc : Scope} (h : (nsc.names.all fun y => !decide (y.2 = .free) || decide (sc.names.lookup y.1 = some .cell) || decide (sc.names.lookup y.1 = some .free)) = true) : ∀ y ∈ nsc.names, y.2 = .free → sc.names.lookup y.1 = some .cell ∨ sc.names.lookup y.1 = some .free := by
  simp only [Bool.or_eq_true, Bool.not_eq_true', decide_eq_true_eq, decide_eq_false_iff_not, List.all_eq_true] at h
  intro y hy e
  rcases h y hy with (z | z) | z
  · exact absurd e z
  · exact .inl z
  · exact .inr z
end SD
namespace SD
open PySem PySem.Spec PyProof.Rows L2 LamX NdefX

/-! ### what the defs of a law know of each other -/
structure Hs (C : Ct) (P : Program) (w : World) (base : Heap) (j : Nat) (x : Str) (np : Nat) (fn : FnU) : Prop where
  ex : ∃ (f : Addr) (fd : FuncData) (ps : List Str), C.mg x = some (.ref f) ∧ FnOk P w C.K C.mg base (L2.CX P w) j f fd ps (spM C np fn) ∧ PySem.W.keepIn C.K (.ref f) = true ∧ Binds C.K fd ps []
structure AllOk (C : Ct) (sig : Nat → Option (Str × Nat)) (tb : Nat → Option LI) (P : Program) (w : World) (base : Heap) (n : Nat) (R : Nat → FnU) (RC : Nat → CloU) : Prop where
  fns : ∀ id x np, sig id = some (x, np) → Hs C P w base n x np (R id)
  clos : ∀ id li, tb id = some li → CloOk C P w base n li (RC id)
section
variable {C : Ct} {X : Cx} {W : WX} {k : Nat} {e : Expr} {es : List Expr} {g : AM} {p pos : Pos} {x : Str} {np : Nat} {fn : FnU}
theorem ie_call' (o : XOk C X W k) (F : Hs C X.prog X.w X.base k x np fn) (hg : Gl X x)
    (ha : PA X (e :: es) (tMA C W g)) (hdb : (x == ("__debug__" : Str)) = false := by decide) (he : starEach (e :: es) X.env = (false, eval e X.env) :: starEach es X.env := by rfl) (hpl : (backTo pos (starEach es X.env)).any (·.1) = false := by rfl) :
    PE X (.Call (.Name x p) (e :: es) [] pos) (tM C W (mCall np fn g)) := by
  obtain ⟨f, fd, ps, h1, h2, h3, h4⟩ := F.ex
  rw [← o.mg] at h1
  rw [← o.K, ← o.mg] at h2
  rw [← o.K] at h3 h4
  exact ie_call o h2 (Nat.le_refl _) hg h1 h3 h4 ha hdb he hpl
end
section
variable {K : PySem.W.Frag} {mg : Str → Option Value} {T : List (Addr × Str)} {tb : Nat → Option LI} {X : Cx} {W : WX} {k : Nat} {e e1 e2 : Expr} {es : List Expr} {g : AM} {p lpos pos : Pos} {x : Str} {fn : FnU} {f1 f2 : EM} {sig : Nat → Option (Str × Nat)} {R : Nat → FnU} {RC : Nat → CloU} {np : Nat → Option Nat}
/-- the number of a closure's arguments -/
def npOf (tb : Nat → Option LI) : Nat → Option Nat := fun id => (tb id).map fun li => li.ps.length
theorem ie_clo' {i : Nat} (o : XOk (ctOf K mg T tb) X W k) (A : AllOk (ctOf K mg T tb) sig tb X.prog X.w X.base k R RC)
    (hN : X.N[i]? = some x) (hv : Vis X.env.scope x) (ha : PA X (e :: es) (tMA (ctOf K mg T tb) W g))
    (hd : (x == ("__debug__" : Str)) = false := by decide) (hcd : (x == ("__classdict__" : Str)) = false := by decide)
    (he : starEach (e :: es) X.env = (false, eval e X.env) :: starEach es X.env := by rfl) (hpl : (backTo pos (starEach es X.env)).any (·.1) = false := by rfl) :
    PE X (.Call (.Name x p) (e :: es) [] pos) (tM (ctOf K mg T tb) W (mClo i RC (npOf tb) g)) :=
  ie_clo o (Nat.le_refl _) A.clos (fun id li h => by unfold npOf; rw [h]; rfl) hN hv ha hd hcd he hpl
/-- what a maker of lambdas knows of its code object and table -/
structure Mk1 (X : Cx) (T : List (Addr × Str)) : Prop where
  ex : ∃ c P, TabB X.base X.mg c P ∧ X.env.code = .ref c ∧ (P, X.env.qual ++ "<lambda>") ∈ T ∧ ∀ p ∈ T, p.1 = P → p.2 = X.env.qual ++ "<lambda>"
theorem ie_callLam' {li : LI} {id : Nat} {js : List Nat} (o : XOk (ctOf K mg T tb) X W k) (F : Hs (ctOf K mg T tb) X.prog X.w X.base k x 3 fn) (hg : Gl X x)
    (hid : tb id = some li) (h1 : PE X e1 (tM (ctOf K mg T tb) W f1)) (h2 : PE X e2 (tM (ctOf K mg T tb) W f2)) (M : Mk1 X T)
    (hfr : (li.scope.names.all fun y => !decide (y.2 = .free) || decide (X.env.scope.names.lookup y.1 = some .cell) || decide (X.env.scope.names.lookup y.1 = some .free)) = true) (hfi : (li.fr.all fun y => decide ((y, NameKind.free) ∈ li.scope.names)) = true)
    (hjs : js.map (fun j => X.N[j]?) = li.fr.map some) (hfn : ∀ x, X.fn x = true := by intro _; rfl) (hdef : defaultsOf li.params X.env = ([], []) := by rfl)
    (hdb : (x == ("__debug__" : Str)) = false := by decide) (hs1 : starEach (e1 :: [e2, .Lambda li.params li.body li.scope lpos]) X.env = (false, eval e1 X.env) :: starEach [e2, .Lambda li.params li.body li.scope lpos] X.env := by rfl) (hs2 : starEach (e2 :: [.Lambda li.params li.body li.scope lpos]) X.env = (false, eval e2 X.env) :: starEach [.Lambda li.params li.body li.scope lpos] X.env := by rfl)
    (hpl : (backTo pos (starEach [e2, .Lambda li.params li.body li.scope lpos] X.env)).any (·.1) = false := by rfl) :
    PE X (.Call (.Name x p) [e1, e2, .Lambda li.params li.body li.scope lpos] [] pos) (tM (ctOf K mg T tb) W (mCallLam fn id js f1 f2)) := by
  obtain ⟨f, fd, ps, g1, g2, g3, g4⟩ := F.ex
  rw [← o.mg] at g1
  rw [← o.K, ← o.mg] at g2
  rw [← o.K] at g3 g4
  obtain ⟨c, P, m1, m2, m3, m4⟩ := M.ex
  exact ie_callLam o g2 (Nat.le_refl _) hg g1 g3 g4 hid h1 h2 m1 m2 m3 m4 hdef (free_ok hfr) (fun y hy => by
    have := List.all_eq_true.mp hfi y hy
    exact of_decide_eq_true this) hjs hfn hdb hs1 hs2 hpl
end

/-! ### a def whose code object is known -/
structure FunC (K : PySem.W.Frag) (x qual : Str) (st : Stmt) (f : Addr) (fd : FuncData) (c : Addr) : Prop where
  ex : ∃ (oc : Value) (od : Option Addr) (kV doc pm : Value) (an : Option Addr) (ct : Value) (osl : Array (Option Value)),
    fd = PySem.W.fnOf x qual (defArgs st) (defBody st) (defScope st) .none kV doc pm an (.ref c) ct ∧ K.lookup f = some ⟨oc, od, .func fd, osl⟩ ∧ PySem.W.codeIn K (.ref c) qual = true
theorem funC_mk {K : PySem.W.Frag} {x qual : Str} {st : Stmt} {f c : Addr} {oc : Value} {od an : Option Addr} {osl : Array (Option Value)} {kV doc pm ct : Value} (l : K.lookup f = some ⟨oc, od, .func (PySem.W.fnOf x qual (defArgs st) (defBody st) (defScope st) .none kV doc pm an (.ref c) ct), osl⟩)
    (h : PySem.W.codeIn K (.ref c) qual = true) : FunC K x qual st f (PySem.W.fnOf x qual (defArgs st) (defBody st) (defScope st) .none kV doc pm an (.ref c) ct) c := ⟨oc, od, kV, doc, pm, an, ct, osl, rfl, l, h⟩
theorem fn_defC {C : Ct} {P : Program} {w : World} {base : Heap} {x qual : Str} {st : Stmt} {f c : Addr} {fd : FuncData} {N ps : List Str} {k : Nat} {g : SM} (F : FunC C.K x qual st f fd c) (S : FnScope N ps (defScope st))
    (hbody : ∀ (A : Around) (outer : List Env) (s : Shared) (H : Hp) (E : XK), Room k (A.deeper (envOfC qual (defScope st) s.heap.objs.size f (.ref c))) →
      PSs (cxOf (L2.CX P w) P w C.K C.mg base N qual (defScope st) f (.ref c) A outer s H E) (defBody st) (sM C (fun cls d _ H => E cls d H) g)) : FnOk P w C.K C.mg base (L2.CX P w) (k + 1) f fd ps (spM C ps.length (runDef N.length g)) := by
  obtain ⟨oc, od, kV, doc, pm, an, ct, osl, rfl, lk, hcd⟩ := F.ex
  refine fn_of lk hcd S (fun vs H Q E h => ?_) fun A outer s H vs Q E hr h => ?_
  · obtain ⟨m, us, h, r, _, _, hl, _⟩ := h
    rw [r.length, hl]
  · obtain ⟨m, us, h, r, tb, hR, hl, p⟩ := h
    refine ⟨_, hbody A outer s H E hr, m, us.map some ++ List.replicate (N.length - us.length) none, h, ⟨?_, fun i u e => start_get r i u e, tb, hR⟩, ?_⟩
    · unfold L2.start
      rw [List.length_append, List.length_append, List.length_map, List.length_map, List.length_replicate, List.length_replicate, r.length]
    · unfold runDef at p
      rw [← hR.len] at p
      have p := gc_ok p
      cases e : g (us.map some ++ List.replicate (N.length - us.length) none) h with
      | nx ρ h1 => rw [e] at p; exact fun σ' H' m' x s' => p .non H' m' x s'.hr .non
      | rt u h1 => rw [e] at p; exact p
      | bk ρ h1 => rw [e] at p; exact p.elim
      | ct ρ h1 => rw [e] at p; exact p.elim
      | exc c ρ h1 => rw [e] at p; exact fun σ' H' m' cl x s' hc => p H' m' cl x s'.hr hc
      | bad => rw [e] at p; exact p
/-- one def of a law -/
theorem hs_mk {C : Ct} {P : Program} {w : World} {base : Heap} {x qual : Str} {st : Stmt} {f c : Addr} {fd : FuncData} {N ps : List Str} {k : Nat} {g : SM} (hm : C.mg x = some (.ref f)) (F : FunC C.K x qual st f fd c) (kp : PySem.W.keepIn C.K (.ref f) = true) (b : Binds C.K fd ps []) (S : FnScope N ps (defScope st))
    (hbody : ∀ (A : Around) (outer : List Env) (s : Shared) (H : Hp) (E : XK), XOk C (cxOf (L2.CX P w) P w C.K C.mg base N qual (defScope st) f (.ref c) A outer s H E) (fun cls d _ H => E cls d H) k →
      PSs (cxOf (L2.CX P w) P w C.K C.mg base N qual (defScope st) f (.ref c) A outer s H E) (defBody st) (sM C (fun cls d _ H => E cls d H) g)) : Hs C P w base (k + 1) x ps.length (runDef N.length g) :=
  ⟨f, fd, ps, hm, fn_defC F S fun A outer s H E hr => hbody A outer s H E (xok_cx S hr), kp, b⟩
theorem FunC.binds {K : PySem.W.Frag} {x qual : Str} {st : Stmt} {f c : Addr} {fd : FuncData} {ps : List Str} (F : FunC K x qual st f fd c)
    (h : ∀ (kV doc pm : Value) (an : Option Addr) (cdv ct : Value) (us : List Value), us.length = ps.length → bindArgs (PySem.W.fnOf x qual (defArgs st) (defBody st) (defScope st) .none kV doc pm an cdv ct) ⟨us, []⟩ = pure (ps.zip us)) : Binds K fd ps [] := by
  obtain ⟨oc, od, kV, doc, pm, an, ct, osl, rfl, lk, hcd⟩ := F.ex
  exact .all (h kV doc pm an (.ref c) ct)
/-- nothing is known with no calls -/
theorem hs_none {C : Ct} {P : Program} {w : World} {base : Heap} {x : Str} {f : Addr} {fd : FuncData} {ps : List Str} {np : Nat} (hm : C.mg x = some (.ref f)) (kp : PySem.W.keepIn C.K (.ref f) = true) (b : Binds C.K fd ps []) : Hs C P w base 0 x np (fun _ _ => .bad) := by
  have no : ∀ vs H Q E, ¬ spM C np (fun _ _ => .bad) vs H Q E := fun vs H Q E ⟨_, _, _, _, _, _, _, p⟩ => p
  exact ⟨f, fd, ps, hm, ⟨fun vs H Q E h => absurd h (no vs H Q E), fun A outer s H args us vs Q E _ _ _ _ h => absurd h (no vs H Q E)⟩, kp, b⟩
theorem clo_none {C : Ct} {P : Program} {w : World} {base : Heap} {li : LI} : CloOk C P w base 0 li (fun _ _ _ => .bad) := fun f q cl c =>
  ⟨fun A outer s H us vs ws Q E _ _ _ _ _ _ h => by obtain ⟨_, _, _, _, _, _, _, _, _, _, _, p⟩ := h; exact p.elim⟩
end SD
namespace SD
open PySem PySem.Spec PyProof.Rows L2 LamX NdefX
/-! ### the law, handed its script -/
def spScr (K : PySem.W.Frag) (T : List (Addr × Str)) (fn : FnU) : Sp := fun vs H Q E => ∃ (a : Addr) (ns : List Int), vs = [.ref a] ∧ SqL K H a (ns.map V.int) ∧ LamX.Tabs T H ∧ (∃ h', fn [.fls (ns.map U.int)] [] = .ok (.bl true) h') ∧ ∀ H', Q (.bl true) H'
theorem rus_ints {K : PySem.W.Frag} {mg : Str → Option Value} {H : Hp} {m : List Addr} : ∀ ns : List Int, RUs K mg H m (ns.map V.int) (ns.map U.int)
  | [] => .nil
  | n :: ns => .cons (.int n) (rus_ints ns)
section
variable {P : Program} {w : World} {K : PySem.W.Frag} {mg : Str → Option Value} {T : List (Addr × Str)} {tb : Nat → Option LI} {base : Heap} {k : Nat} {f : Addr} {fd : FuncData} {x : Str} {fn : FnU}
theorem fn_script (F : FnOk P w K mg base (L2.CX P w) k f fd [x] (spM (ctOf K mg T tb) 1 fn)) : FnOk P w K mg base (L2.CX P w) k f fd [x] (spScr K T fn) := by
  have direct : ∀ {A : Around} {outer : List Env} {s : Shared} {H : Hp} {args : Args} {us : List Value} {a : Addr} {ns : List Int} {Q : VK} {E : XK} {h' : Os}, Room k A → Env0 P w K mg base A outer s H → BindsTo s fd args ([x].zip us) → Vals [.ref a] us → Fz K H a (ns.map V.int) → LamX.Tabs T H → fn [.fls (ns.map U.int)] [] = .ok (.bl true) h' → (∀ H', Q (.bl true) H') →
      codeAny (model P w) A (.call (.ref f) args) (CR (L2.CX P w) outer P w H s Q E) s := fun {A outer s H args us a ns Q E h'} hr e0 hb hv hz hT hf q => by
    refine F.run A outer s H args us [.ref a] Q E hr e0 hb hv ⟨[], [.fls (ns.map U.int)], [], .cons (.fls hz (rus_ints ns)) .nil, hT, ⟨rfl, List.nodup_nil, fun n a o e => by simp at e⟩, rfl, ?_⟩
    rw [hf]
    intro v H' m' x hr' ru
    cases ru
    exact q H'
  refine ⟨fun vs H Q E ⟨a, ns, e, _⟩ => by rw [e]; rfl, fun A outer s H args us vs Q E hr e0 hb hv h => ?_⟩
  obtain ⟨a, ns, rfl, hS, hT, ⟨h', hf⟩, q⟩ := h
  rcases hS with (hl | ⟨o, hz⟩) | hk
  · obtain ⟨hsz, its, n, hvs, ho⟩ := e0.hok a _ hl
    let o : Obj := { cls := .type "list", data := .seq its.toArray n }
    let H2 : Hp := upd H a (.frz o (.lst (ns.map V.int)))
    have at2 : H2 a = some (.frz o (.lst (ns.map V.int))) := upd_same
    have ne : ∀ b, b ≠ a → H2 b = H b := fun b z => upd_ne z
    have up : ∀ {b u}, H b = some u → (∀ xs, u ≠ .lst xs) → H2 b = some u := fun {b u} e z => by
      rw [ne b fun y => by subst y; rw [hl] at e; cases e; exact z _ rfl]; exact e
    have no : ∀ b, H b = none → H2 b = none := fun b e => by rw [ne b (ne_of_none hl e).symm]; exact e
    have ok2 : HOk P w H2 s.heap := fun b u e => by
      by_cases z : b = a
      · subst z
        rw [at2] at e
        cases e
        exact ⟨ho, hsz, its, n, hvs, ho⟩
      · rw [ne b z] at e
        exact (e0.hok b u e).stay (fun _ _ _ q => q) (fun c q => up q fun _ y => nomatch y) fun c xs q => up q fun _ y => nomatch y
    have e2 : Env0 P w K mg base A outer s H2 := ⟨e0.frames, e0.mod, fun b u e => ⟨(e0.bs b u e).1, no b (e0.bs b u e).2⟩, e0.bsz, e0.funs, fun b hb => no b (e0.frf b hb), ok2, e0.bare⟩
    have hT2 : LamX.Tabs T H2 := fun q hq => by
      obtain ⟨ps, h1, h2, h3⟩ := hT q hq
      refine ⟨ps, (up h1 (fun _ y => nomatch y)), h2, fun pos cv hc => ?_⟩
      obtain ⟨c, g1, g2⟩ := h3 pos cv hc
      exact ⟨c, g1, up g2 fun _ y => by unfold LamX.CodeO at y; cases y⟩
    refine codeAny_mono (direct (E := fun _ _ _ => False) hr e2 hb hv (.inl ⟨o, at2⟩) hT2 hf q) fun r s' hq => ?_
    cases r with
    | error e => obtain ⟨_, _, _, _, _, _, _, _, _, _, _, _, z⟩ := hq; exact z.elim
    | ok fl =>
      cases fl with
      | ret u =>
        obtain ⟨v, H', os, bare, un, hok, rv, q⟩ := hq
        exact ⟨v, H', os, bare, ⟨fun b o e n => un.keep b o e (no b n), fun b o e n => un.slot b o e (no b n), fun b o e n => un.free b o e (no b n), un.there, fun b xs e => un.tups b xs (up e fun _ y => nomatch y), fun b o u e => un.frzs b o u (up e fun _ y => nomatch y), fun b ps e => un.tbls b ps (up e fun _ y => nomatch y)⟩, hok, rv, q⟩
      | next => exact hq
      | brk => exact hq
      | cont => exact hq
  · exact direct hr e0 hb hv (.inl ⟨o, hz⟩) hT hf q
  · exact direct hr e0 hb hv (.inr hk) hT hf q
end
/-! ### targets of a tuple or a list -/
def gTL (gs : List GM) : GM := fun u ρ h => match u with
  | .tup _ => gT gs u ρ h
  | _ => gL gs u ρ h
section
variable {C : Ct} {X : Cx} {W : WX} {k : Nat} {gs : List GM} {js : List Nat} {pos : Pos}
theorem ig_seq (o : XOk C X W k) {es : List Expr} {j : Nat} (h : PGs X es (gsM C js gs)) (hn : (assignEach es X.env).length = gs.length := by rfl) (hst : (assignEach es X.env).findIdx? (·.1) = none := by rfl) : PG X (.Tuple es j pos) (gM C js (gTL gs)) := by
  refine ⟨fun pins s σ H v u Q I r q => ?_⟩
  obtain ⟨m, ρ, hh, uu, ρ', st, ru, e, q'⟩ := q
  cases uu with
  | tup xs => exact (ig_tup (gs := gs) o h hn hst).run pins s σ H v u Q I r ⟨m, ρ, hh, _, ρ', st, ru, e, q'⟩
  | _ => exact (ig_lst (gs := gs) o h hn hst).run pins s σ H v u Q I r ⟨m, ρ, hh, _, ρ', st, ru, e, q'⟩
end
/-! ### places in the text -/
section
variable {C : Ct} {X : Cx} {W : WX} {k : Nat} {e : Expr} {es : List Expr} {f : EM} {js : List Nat} {pos p : Pos} {K : PySem.W.Frag} {mg : Str → Option Value} {T : List (Addr × Str)} {tb : Nat → Option LI} {sig : Nat → Option (Str × Nat)} {R : Nat → FnU} {RC : Nat → CloU} {g : AM}
theorem iv (i : Nat) {x : Str} (hN : X.N[i]? = some x := by rfl) (hv : Vis X.env.scope x := by first | exact Or.inl rfl | exact Or.inr (Or.inl rfl) | exact Or.inr (Or.inr rfl)) (hd : (x == ("__debug__" : Str)) = false := by decide) (hcd : (x == ("__classdict__" : Str)) = false := by decide) : PE X (.Name x pos) (tM C W (mVar i)) := ie_var hN hv hd hcd
theorem is_st (i : Nat) {x : Str} {pos' : Pos} (o : XOk C X W k) (he : PE X e (tM C W f)) (hi : X.N[i]? = some x := by rfl) (hx : Loc X.env.scope x := by first | exact Or.inl rfl | exact Or.inr rfl) (hs : swapsWith e (some (.Name x pos')) pos.line X.env = pure false := by rfl) (hf : X.fn x = true ∨ X.env.scope.names.lookup x = some .local := by first | exact .inl rfl | exact .inr rfl) :
    PS X (.Assign [.Name x pos'] e pos) (sM C W (mAsg f (gN i))) := is_set o.nd hi hx he hs hf
theorem ig_n (i : Nat) {x : Str} (o : XOk C X W k) (hij : i ∈ js := by decide) (hi : X.N[i]? = some x := by rfl) (hx : Loc X.env.scope x := by first | exact Or.inl rfl | exact Or.inr rfl) (hf : X.fn x = true ∨ X.env.scope.names.lookup x = some .local := by first | exact .inl rfl | exact .inr rfl) : PG X (.Name x pos) (gM C js (gN i)) := ig_name hij o.nd hi hx hf
theorem ie_cl (i : Nat) {x : Str} (o : XOk (ctOf K mg T tb) X W k) (A : AllOk (ctOf K mg T tb) sig tb X.prog X.w X.base k R RC) (ha : PA X (e :: es) (tMA (ctOf K mg T tb) W g))
    (hN : X.N[i]? = some x := by rfl) (hv : Vis X.env.scope x := by first | exact Or.inl rfl | exact Or.inr (Or.inl rfl) | exact Or.inr (Or.inr rfl)) 
    (hd : (x == ("__debug__" : Str)) = false := by decide) (hcd : (x == ("__classdict__" : Str)) = false := by decide)
    (he : starEach (e :: es) X.env = (false, eval e X.env) :: starEach es X.env := by rfl) (hpl : (backTo pos (starEach es X.env)).any (·.1) = false := by rfl) :
    PE X (.Call (.Name x p) (e :: es) [] pos) (tM (ctOf K mg T tb) W (mClo i RC (npOf tb) g)) := ie_clo' o A hN hv ha hd hcd he hpl
end
def sAt (l : List Stmt) (i : Nat) : Stmt := l.getD i (.Pass ⟨0, 0, 0, 0⟩)
def sBody : Stmt → List Stmt
  | .For _ _ b _ _ => b
  | .If _ b _ _ => b
  | .While _ b _ _ => b
  | _ => []
def sElse : Stmt → List Stmt
  | .If _ _ b _ => b
  | _ => []
def nowhere : Expr := .Name "" ⟨0, 0, 0, 0⟩
def sVal : Stmt → Expr
  | .Assign _ e _ => e
  | .Return (some e) _ => e
  | .Expr e _ => e
  | _ => nowhere
def eArg : Expr → Nat → Expr
  | .Call _ as _ _, i => as.getD i nowhere
  | _, _ => nowhere
def lamArgs : Expr → Arguments
  | .Lambda a _ _ _ => a
  | _ => { posonlyargs := [], args := [], vararg := none, kwonlyargs := [], kw_defaults := [], kwarg := none, defaults := [] }
def lamBody : Expr → Expr
  | .Lambda _ b _ _ => b
  | _ => nowhere
def lamScope : Expr → Scope
  | .Lambda _ _ s _ => s
  | _ => { kind := .function, names := [], isGenerator := false, isCoroutine := false, more := [] }
theorem cx_false {P : Program} {w : World} {H : Hp} {s : Shared} {e : Value} {s' : Shared} : L2.CX P w [] H s (fun _ _ _ => False) e s' → False := fun ⟨_, _, _, _, _, _, _, _, _, _, _, _, z⟩ => z
end SD
namespace SD
open PySem PySem.Spec
/-! ### the plain side: what gc leaves -/
theorem gc_same (u : U) (h : Os) : gc h.length (.ok u h) = .ok u h := by
  unfold gc
  dsimp only
  rw [List.take_length]
  split
  · split
    · rfl
    · cases u with
      | ref k =>
        dsimp only
        cases e : h[k]? with
        | none => rfl
        | some o =>
          dsimp only
          have := (List.getElem?_eq_some_iff.mp e).1
          rw [if_neg (by omega)]
      | _ => rfl
  · rfl
theorem gc_cut {n : Nat} {u : U} {h t : Os} (hn : h.length = n) (hw : h.all (O.bd n) = true) (hu : U.bd n u = true) : gc n (.ok u (h ++ t)) = .ok u h := by
  subst hn
  unfold gc
  dsimp only
  rw [List.take_left, if_pos hw, if_pos hu]
theorem gc_new {n k : Nat} {o : O} {h t : Os} (hn : h.length = n) (hw : h.all (O.bd n) = true) (hk : t[k]? = some o) (ho : O.bd n o = true) : gc n (.ok (.ref (n + k)) (h ++ t)) = .ok (.ref n) (h ++ [o]) := by
  subst hn
  unfold gc
  dsimp only
  rw [List.take_left, if_pos hw, if_neg (by simp [U.bd])]
  have e : (h ++ t)[h.length + k]? = some o := by rw [List.getElem?_append_right (by omega)]; simpa using hk
  rw [e]
  dsimp only
  rw [if_pos ⟨by omega, ho⟩]
/-! ### the steps of the combinators, one by one -/
section
variable {α β : Type} {ρ ρ1 : En} {h h1 : Os} {a b : SM} {f g e : EM} {t t1 : BM} {gs : AM} {u w : U} {us : List U} {op : OpU} {fn : FnU} {np i : Nat} {gm : GM} {it : IM} {c : Str} {gd : Gd}
def kSeq (r : Rt) (b : SM) : Rt := match r with
  | .nx ρ h => b ρ h
  | r => r
@[simp] theorem mSeq_ev : mSeq a b ρ h = kSeq (a ρ h) b := rfl
@[simp] theorem kSeq_nx : kSeq (.nx ρ h) b = b ρ h := rfl
@[simp] theorem kSeq_rt : kSeq (.rt u h) b = .rt u h := rfl
@[simp] theorem kSeq_bk : kSeq (.bk ρ h) b = .bk ρ h := rfl
@[simp] theorem kSeq_ct : kSeq (.ct ρ h) b = .ct ρ h := rfl
@[simp] theorem kSeq_exc : kSeq (.exc c ρ h) b = .exc c ρ h := rfl
def kIf (r : Rs Bool) (a b : SM) (ρ : En) : Rt := thenS r ρ fun c h1 => if c = true then a ρ h1 else b ρ h1
@[simp] theorem mIfS_ev : mIfS t a b ρ h = kIf (t ρ h) a b ρ := rfl
@[simp] theorem kIf_t : kIf (.ok true h) a b ρ = a ρ h := rfl
@[simp] theorem kIf_f : kIf (.ok false h) a b ρ = b ρ h := rfl
@[simp] theorem kIf_exc : kIf (.exc c h) a b ρ = .exc c ρ h := rfl
@[simp] theorem mSkip_ev : mSkip ρ h = .nx ρ h := rfl
@[simp] theorem mBreak_ev : mBreak ρ h = .bk ρ h := rfl
@[simp] theorem mCont_ev : mCont ρ h = .ct ρ h := rfl
@[simp] theorem mRetN_ev : mRetN ρ h = .rt .non h := rfl
def kRet (r : Rs U) (ρ : En) : Rt := thenS r ρ fun u h1 => .rt u h1
@[simp] theorem mRet_ev : mRet f ρ h = kRet (f ρ h) ρ := rfl
@[simp] theorem kRet_ok : kRet (.ok u h) ρ = .rt u h := rfl
@[simp] theorem kRet_exc : kRet (.exc c h) ρ = .exc c ρ h := rfl
def kDrop (r : Rs U) (ρ : En) : Rt := thenS r ρ fun _ h1 => .nx ρ h1
@[simp] theorem mDrop_ev : mDrop f ρ h = kDrop (f ρ h) ρ := rfl
@[simp] theorem kDrop_ok : kDrop (.ok u h) ρ = .nx ρ h := rfl
@[simp] theorem kDrop_exc : kDrop (.exc c h) ρ = .exc c ρ h := rfl
def kAsg (r : Rs U) (g : GM) (ρ : En) : Rt := thenS r ρ fun u h1 => match g u ρ h1 with
  | some ρ1 => .nx ρ1 h1
  | none => .bad
def kAsg2 (r : Option En) (h : Os) : Rt := match r with
  | some ρ1 => .nx ρ1 h
  | none => .bad
@[simp] theorem mAsg_ev : mAsg f gm ρ h = kAsg (f ρ h) gm ρ := rfl
@[simp] theorem kAsg_ok : kAsg (.ok u h) gm ρ = kAsg2 (gm u ρ h) h := rfl
@[simp] theorem kAsg_exc : kAsg (.exc c h) gm ρ = .exc c ρ h := rfl
@[simp] theorem kAsg2_ok : kAsg2 (some ρ) h = .nx ρ h := rfl
@[simp] theorem gN_ev : gN i u ρ h = some (ρ.set i (some u)) := rfl
@[simp] theorem gTL_tup {l : List GM} (e : us.length = l.length) : gTL l (.tup us) ρ h = seqG l us ρ h := by unfold gTL gT; simp [e]
@[simp] theorem gTL_fls {l : List GM} (e : us.length = l.length) : gTL l (.fls us) ρ h = seqG l us ρ h := by unfold gTL gL; simp [e]
theorem gTL_ref {l : List GM} (e : h[i]? = some (.lst us)) (e2 : us.length = l.length) : gTL l (.ref i) ρ h = seqG l us ρ h := by unfold gTL gL; simp [e, e2]
@[simp] theorem seqG_nil : seqG [] [] ρ h = some ρ := rfl
def kSeqG (r : Option En) (gs : List GM) (us : List U) (h : Os) : Option En := match r with
  | some ρ1 => seqG gs us ρ1 h
  | none => none
@[simp] theorem seqG_cons {l : List GM} : seqG (gm :: l) (u :: us) ρ h = kSeqG (gm u ρ h) l us h := rfl
@[simp] theorem kSeqG_ok {l : List GM} : kSeqG (some ρ) l us h = seqG l us ρ h := rfl
def kVar (r : Option (Option U)) (h : Os) : Rs U := match r with
  | some (some u) => .ok u h
  | _ => .bad
@[simp] theorem mVar_ev : mVar i ρ h = kVar ρ[i]? h := rfl
@[simp] theorem kVar_ok : kVar (some (some u)) h = .ok u h := rfl
@[simp] theorem mC_ev : mC u ρ h = .ok u h := rfl
def kBin2 (op : OpU) (x : U) (r : Rs U) : Rs U := r.bind fun y h2 => op x y h2
def kBin (op : OpU) (r : Rs U) (b : EM) (ρ : En) : Rs U := r.bind fun x h1 => kBin2 op x (b ρ h1)
@[simp] theorem mBin_ev : mBin op f g ρ h = kBin op (f ρ h) g ρ := rfl
@[simp] theorem kBin_ok : kBin op (.ok u h) g ρ = kBin2 op u (g ρ h) := rfl
@[simp] theorem kBin_exc : kBin op (.exc c h) g ρ = .exc c h := rfl
@[simp] theorem kBin2_ok : kBin2 op u (.ok w h) = op u w h := rfl
@[simp] theorem kBin2_exc : kBin2 op u (.exc c h) = .exc c h := rfl
def kTru2 (r : Option Bool) (h : Os) : Rs Bool := match r with
  | some b => .ok b h
  | none => .bad
def kTru (r : Rs U) : Rs Bool := r.bind fun u h1 => kTru2 (truth h1 u) h1
@[simp] theorem mTru_ev : mTru f ρ h = kTru (f ρ h) := rfl
@[simp] theorem kTru_ok : kTru (.ok u h) = kTru2 (truth h u) h := rfl
@[simp] theorem kTru_exc : kTru (.exc c h) = .exc c h := rfl
@[simp] theorem kTru2_ok {b : Bool} : kTru2 (some b) h = .ok b h := rfl
@[simp] theorem truth_bl {b : Bool} : truth h (.bl b) = some b := rfl
@[simp] theorem truth_int {j : Int} : truth h (.int j) = some (j != 0) := rfl
@[simp] theorem truth_non : truth h .non = some false := rfl
@[simp] theorem truth_tup : truth h (.tup us) = some (!us.isEmpty) := rfl
def kAnd (r : Rs Bool) (g : BM) (ρ : En) : Rs Bool := r.bind fun b h1 => if b = true then g ρ h1 else .ok false h1
@[simp] theorem mAnd_ev : mAnd t t1 ρ h = kAnd (t ρ h) t1 ρ := rfl
@[simp] theorem kAnd_t : kAnd (.ok true h) t ρ = t ρ h := rfl
@[simp] theorem kAnd_f : kAnd (.ok false h) t ρ = .ok false h := rfl
def kOr (r : Rs Bool) (g : BM) (ρ : En) : Rs Bool := r.bind fun b h1 => if b = true then .ok true h1 else g ρ h1
@[simp] theorem mOr_ev : mOr t t1 ρ h = kOr (t ρ h) t1 ρ := rfl
@[simp] theorem kOr_t : kOr (.ok true h) t ρ = .ok true h := rfl
@[simp] theorem kOr_f : kOr (.ok false h) t ρ = t ρ h := rfl
def kNot (r : Rs Bool) : Rs Bool := r.bind fun b h1 => .ok (!b) h1
@[simp] theorem mNot_ev : mNot t ρ h = kNot (t ρ h) := rfl
@[simp] theorem kNot_ok {b : Bool} : kNot (.ok b h) = .ok (!b) h := rfl
def kAndV2 (r : Option Bool) (u : U) (g : EM) (ρ : En) (h : Os) : Rs U := match r with
  | some true => g ρ h
  | some false => .ok u h
  | none => .bad
def kAndV (r : Rs U) (g : EM) (ρ : En) : Rs U := r.bind fun u h1 => kAndV2 (truth h1 u) u g ρ h1
theorem mAndV_ev0 : mAndV f g ρ h = kAndV (f ρ h) g ρ := by
  unfold mAndV kAndV kAndV2
  congr 1
  funext u h1
  cases truth h1 u with
  | none => rfl
  | some b => cases b <;> rfl
@[simp] theorem mAndV_ev : mAndV f g ρ h = kAndV (f ρ h) g ρ := mAndV_ev0
@[simp] theorem kAndV_ok : kAndV (.ok u h) g ρ = kAndV2 (truth h u) u g ρ h := rfl
@[simp] theorem kAndV2_t : kAndV2 (some true) u g ρ h = g ρ h := rfl
@[simp] theorem kAndV2_f : kAndV2 (some false) u g ρ h = .ok u h := rfl
def kOrV2 (r : Option Bool) (u : U) (g : EM) (ρ : En) (h : Os) : Rs U := match r with
  | some true => .ok u h
  | some false => g ρ h
  | none => .bad
def kOrV (r : Rs U) (g : EM) (ρ : En) : Rs U := r.bind fun u h1 => kOrV2 (truth h1 u) u g ρ h1
@[simp] theorem mOrV_ev : mOrV f g ρ h = kOrV (f ρ h) g ρ := by
  unfold mOrV kOrV kOrV2
  congr 1
  funext u h1
  cases truth h1 u with
  | none => rfl
  | some b => cases b <;> rfl
@[simp] theorem kOrV_ok : kOrV (.ok u h) g ρ = kOrV2 (truth h u) u g ρ h := rfl
@[simp] theorem kOrV2_t : kOrV2 (some true) u g ρ h = .ok u h := rfl
@[simp] theorem kOrV2_f : kOrV2 (some false) u g ρ h = g ρ h := rfl
def kNotV (r : Rs U) : Rs U := r.bind fun u h1 => match truth h1 u with
  | some b => .ok (.bl (!b)) h1
  | none => .bad
@[simp] theorem mNotV_ev : mNotV f ρ h = kNotV (f ρ h) := rfl
@[simp] theorem kNotV_bl {b : Bool} : kNotV (.ok (.bl b) h) = .ok (.bl (!b)) h := rfl
def kIfE (r : Rs Bool) (f g : EM) (ρ : En) : Rs U := r.bind fun b h1 => if b = true then f ρ h1 else g ρ h1
@[simp] theorem mIf_ev : mIf t f g ρ h = kIfE (t ρ h) f g ρ := rfl
@[simp] theorem kIfE_t : kIfE (.ok true h) f g ρ = f ρ h := rfl
@[simp] theorem kIfE_f : kIfE (.ok false h) f g ρ = g ρ h := rfl
@[simp] theorem mNil_ev : mNil ρ h = .ok [] h := rfl
def kCons2 (u : U) (r : Rs (List U)) : Rs (List U) := r.bind fun us h2 => .ok (u :: us) h2
def kCons (r : Rs U) (g : AM) (ρ : En) : Rs (List U) := r.bind fun u h1 => kCons2 u (g ρ h1)
@[simp] theorem mCons_ev : mCons f gs ρ h = kCons (f ρ h) gs ρ := rfl
@[simp] theorem kCons_ok : kCons (.ok u h) gs ρ = kCons2 u (gs ρ h) := rfl
@[simp] theorem kCons_exc : kCons (.exc c h) gs ρ = .exc c h := rfl
@[simp] theorem kCons2_ok : kCons2 u (.ok us h) = .ok (u :: us) h := rfl
@[simp] theorem kCons2_exc : kCons2 u (.exc c h) = .exc c h := rfl
def kTup (r : Rs (List U)) : Rs U := r.bind fun us h1 => if us.length ≤ bnd then .ok (.tup us) h1 else .bad
@[simp] theorem mTup_ev : mTup gs ρ h = kTup (gs ρ h) := rfl
@[simp] theorem kTup_ok (e : us.length ≤ 100000) : kTup (.ok us h) = .ok (.tup us) h := if_pos e
def kLst (r : Rs (List U)) : Rs U := r.bind fun us h1 => if us.length ≤ bnd then .ok (.ref h1.length) (h1 ++ [.lst us]) else .bad
@[simp] theorem mLst_ev : mLst gs ρ h = kLst (gs ρ h) := rfl
@[simp] theorem kLst_ok (e : us.length ≤ 100000) : kLst (.ok us h) = .ok (.ref h.length) (h ++ [.lst us]) := if_pos e
@[simp] theorem mDicK_ev : mDicK ρ h = .ok (.ref h.length) (h ++ [.dic []]) := rfl
@[simp] theorem mDicT_ev : mDicT ρ h = .ok (.ref h.length) (h ++ [.diT []]) := rfl
def kCB (f : FnU) (r : Rs (List U)) : Rs U := r.bind fun us h1 => f us h1
@[simp] theorem mCB_ev : mCB fn gs ρ h = kCB fn (gs ρ h) := rfl
@[simp] theorem kCB_ok : kCB fn (.ok us h) = fn us h := rfl
@[simp] theorem kCB_exc : kCB fn (.exc c h) = .exc c h := rfl
def kCall (np : Nat) (fn : FnU) (r : Rs (List U)) : Rs U := r.bind fun us h1 => if us.length = np then fn us h1 else .bad
@[simp] theorem mCall_ev : mCall np fn gs ρ h = kCall np fn (gs ρ h) := rfl
@[simp] theorem kCall_ok (e : us.length = np) : kCall np fn (.ok us h) = fn us h := if_pos e
@[simp] theorem kCall_exc : kCall np fn (.exc c h) = .exc c h := rfl
def kBM2 (meth : MtU) (o : U) (r : Rs (List U)) : Rs U := r.bind fun us h2 => meth o us h2
def kBM (ty : String) (meth : MtU) (r : Rs U) (ga : AM) (ρ : En) : Rs U := r.bind fun o h1 => if isTy h1 ty o = true then kBM2 meth o (ga ρ h1) else .bad
variable {ty : String} {meth : MtU}
@[simp] theorem mBM_ev : mBM ty meth f gs ρ h = kBM ty meth (f ρ h) gs ρ := rfl
@[simp] theorem kBM_ok (e : isTy h ty u = true) : kBM ty meth (.ok u h) gs ρ = kBM2 meth u (gs ρ h) := if_pos e
@[simp] theorem kBM2_ok : kBM2 meth u (.ok us h) = meth u us h := rfl
@[simp] theorem toR_rt : toR (.rt u h) = .ok u h := rfl
@[simp] theorem toR_nx : toR (.nx ρ h) = .ok .non h := rfl
@[simp] theorem toR_exc : toR (.exc c ρ h) = .exc c h := rfl
/-! operators -/
@[simp] theorem opAdd_i {i j : Int} : opAdd (.int i) (.int j) h = .ok (.int (i + j)) h := rfl
theorem opAdd_s {i j : Str} (e : i.length + j.length ≤ 100000) : opAdd (.str i) (.str j) h = .ok (.str (i ++ j)) h := if_pos e
@[simp] theorem opSub_i {i j : Int} : opSub (.int i) (.int j) h = .ok (.int (i - j)) h := rfl
@[simp] theorem opMod_i {i j : Int} (e : 0 < j) : opMod (.int i) (.int j) h = .ok (.int (i % j)) h := by unfold opMod opI; simp [e]
@[simp] theorem opMul_i {i j : Int} (e : mulOk i j = true) : opMul (.int i) (.int j) h = .ok (.int (i * j)) h := by unfold opMul opI; simp [e]
@[simp] theorem opDiv_i {i j : Int} (e : divOk i j = true) : opDiv (.int i) (.int j) h = .ok (.int (i / j)) h := by unfold opDiv opI; simp [e]
@[simp] theorem opLt_i {i j : Int} : opLt (.int i) (.int j) h = .ok (.bl (decide (i < j))) h := rfl
@[simp] theorem opLe_i {i j : Int} : opLe (.int i) (.int j) h = .ok (.bl (decide (i ≤ j))) h := rfl
@[simp] theorem opGt_i {i j : Int} : opGt (.int i) (.int j) h = .ok (.bl (decide (j < i))) h := rfl
@[simp] theorem opGe_i {i j : Int} : opGe (.int i) (.int j) h = .ok (.bl (decide (j ≤ i))) h := rfl
@[simp] theorem opEq_i {i j : Int} : opEq (.int i) (.int j) h = .ok (.bl (decide (i = j))) h := rfl
@[simp] theorem opEq_s {i j : Str} : opEq (.str i) (.str j) h = .ok (.bl (decide (i = j))) h := rfl
@[simp] theorem opNe_i {i j : Int} : opNe (.int i) (.int j) h = .ok (.bl (!decide (i = j))) h := rfl
@[simp] theorem opNe_s {i j : Str} : opNe (.str i) (.str j) h = .ok (.bl (!decide (i = j))) h := rfl
theorem atI_nat {α : Type} {xs : List α} {k : Nat} {x : α} (e : xs[k]? = some x) : L2.atI xs (k : Int) = some x := L2.atI_nat e
theorem opIx_tup {k : Nat} (e : us[k]? = some u) : opIx (.tup us) (.int k) h = .ok u h := by unfold opIx; simp [L2.atI_nat e]
theorem opIx_fls {k : Nat} (e : us[k]? = some u) : opIx (.fls us) (.int k) h = .ok u h := by unfold opIx; simp [L2.atI_nat e]
@[simp] theorem opIx_t0 : opIx (.tup (u :: us)) (.int 0) h = .ok u h := opIx_tup (k := 0) rfl
@[simp] theorem opIx_t1 {u0 : U} : opIx (.tup (u0 :: u :: us)) (.int 1) h = .ok u h := opIx_tup (k := 1) rfl
@[simp] theorem opIx_t2 {u0 u1 : U} : opIx (.tup (u0 :: u1 :: u :: us)) (.int 2) h = .ok u h := opIx_tup (k := 2) rfl
@[simp] theorem opIx_t3 {u0 u1 u2 : U} : opIx (.tup (u0 :: u1 :: u2 :: u :: us)) (.int 3) h = .ok u h := opIx_tup (k := 3) rfl
@[simp] theorem opIx_t4 {u0 u1 u2 u3 : U} : opIx (.tup (u0 :: u1 :: u2 :: u3 :: u :: us)) (.int 4) h = .ok u h := opIx_tup (k := 4) rfl
@[simp] theorem bLen_fls : bLen [.fls us] h = .ok (.int us.length) h := rfl
@[simp] theorem bLen_tup : bLen [.tup us] h = .ok (.int us.length) h := rfl
@[simp] theorem bInt_int {j : Int} : bInt [.int j] h = .ok (.int j) h := rfl
@[simp] theorem bInt_bl {b : Bool} : bInt [.bl b] h = .ok (.int (if b then 1 else 0)) h := rfl
@[simp] theorem bTuple_tup : bTuple [.tup us] h = .ok (.tup us) h := rfl
theorem bIsa_of {n ty : String} {b : Bool} (e : tyName h u = some ty) (e2 : isaT ty n = some b) : bIsa [u, .ty n] h = .ok (.bl b) h := by unfold bIsa; simp [e, e2]
def kIsa (r : Option Bool) (h : Os) : Rs U := match r with
  | some b => .ok (.bl b) h
  | none => .bad
@[simp] theorem kIsa_ok {b : Bool} : kIsa (some b) h = .ok (.bl b) h := rfl
theorem bIsa_ev {n ty : String} (e : tyName h u = some ty) : bIsa [u, .ty n] h = kIsa (isaT ty n) h := by unfold bIsa kIsa; simp only [e] <;> (cases isaT ty n <;> rfl)
@[simp] theorem bIsa_int {j : Int} {n : String} : bIsa [.int j, .ty n] h = kIsa (isaT "int" n) h := bIsa_ev rfl
@[simp] theorem bIsa_bl {j : Bool} {n : String} : bIsa [.bl j, .ty n] h = kIsa (isaT "bool" n) h := bIsa_ev rfl
@[simp] theorem bIsa_str {j : Str} {n : String} : bIsa [.str j, .ty n] h = kIsa (isaT "str" n) h := bIsa_ev rfl
@[simp] theorem bIsa_tup {n : String} : bIsa [.tup us, .ty n] h = kIsa (isaT "tuple" n) h := bIsa_ev rfl
@[simp] theorem bIsa_non {n : String} : bIsa [.non, .ty n] h = kIsa (isaT "NoneType" n) h := bIsa_ev rfl
@[simp] theorem bIsa_fls {n : String} : bIsa [.fls us, .ty n] h = kIsa (isaT "list" n) h := bIsa_ev rfl
theorem bIsa_lst {n : String} (e : h[i]? = some (.lst us)) : bIsa [.ref i, .ty n] h = kIsa (isaT "list" n) h := bIsa_ev (by simp [tyName, e])
theorem bIsa_dic {n : String} {ks : List (L2.Key × U)} (e : h[i]? = some (.dic ks)) : bIsa [.ref i, .ty n] h = kIsa (isaT "dict" n) h := bIsa_ev (by simp [tyName, e])
@[simp] theorem isaT_NoneType_bool : isaT "NoneType" "bool" = some false := by decide +kernel
@[simp] theorem isaT_NoneType_int : isaT "NoneType" "int" = some false := by decide +kernel
@[simp] theorem isaT_NoneType_str : isaT "NoneType" "str" = some false := by decide +kernel
@[simp] theorem isaT_NoneType_tuple : isaT "NoneType" "tuple" = some false := by decide +kernel
@[simp] theorem isaT_NoneType_list : isaT "NoneType" "list" = some false := by decide +kernel
@[simp] theorem isaT_NoneType_dict : isaT "NoneType" "dict" = some false := by decide +kernel
@[simp] theorem isaT_bool_bool : isaT "bool" "bool" = some true := by decide +kernel
@[simp] theorem isaT_bool_int : isaT "bool" "int" = some true := by decide +kernel
@[simp] theorem isaT_bool_str : isaT "bool" "str" = some false := by decide +kernel
@[simp] theorem isaT_bool_tuple : isaT "bool" "tuple" = some false := by decide +kernel
@[simp] theorem isaT_bool_list : isaT "bool" "list" = some false := by decide +kernel
@[simp] theorem isaT_bool_dict : isaT "bool" "dict" = some false := by decide +kernel
@[simp] theorem isaT_int_bool : isaT "int" "bool" = some false := by decide +kernel
@[simp] theorem isaT_int_int : isaT "int" "int" = some true := by decide +kernel
@[simp] theorem isaT_int_str : isaT "int" "str" = some false := by decide +kernel
@[simp] theorem isaT_int_tuple : isaT "int" "tuple" = some false := by decide +kernel
@[simp] theorem isaT_int_list : isaT "int" "list" = some false := by decide +kernel
@[simp] theorem isaT_int_dict : isaT "int" "dict" = some false := by decide +kernel
@[simp] theorem isaT_str_bool : isaT "str" "bool" = some false := by decide +kernel
@[simp] theorem isaT_str_int : isaT "str" "int" = some false := by decide +kernel
@[simp] theorem isaT_str_str : isaT "str" "str" = some true := by decide +kernel
@[simp] theorem isaT_str_tuple : isaT "str" "tuple" = some false := by decide +kernel
@[simp] theorem isaT_str_list : isaT "str" "list" = some false := by decide +kernel
@[simp] theorem isaT_str_dict : isaT "str" "dict" = some false := by decide +kernel
@[simp] theorem isaT_tuple_bool : isaT "tuple" "bool" = some false := by decide +kernel
@[simp] theorem isaT_tuple_int : isaT "tuple" "int" = some false := by decide +kernel
@[simp] theorem isaT_tuple_str : isaT "tuple" "str" = some false := by decide +kernel
@[simp] theorem isaT_tuple_tuple : isaT "tuple" "tuple" = some true := by decide +kernel
@[simp] theorem isaT_tuple_list : isaT "tuple" "list" = some false := by decide +kernel
@[simp] theorem isaT_tuple_dict : isaT "tuple" "dict" = some false := by decide +kernel
@[simp] theorem isaT_list_bool : isaT "list" "bool" = some false := by decide +kernel
@[simp] theorem isaT_list_int : isaT "list" "int" = some false := by decide +kernel
@[simp] theorem isaT_list_str : isaT "list" "str" = some false := by decide +kernel
@[simp] theorem isaT_list_tuple : isaT "list" "tuple" = some false := by decide +kernel
@[simp] theorem isaT_list_list : isaT "list" "list" = some true := by decide +kernel
@[simp] theorem isaT_list_dict : isaT "list" "dict" = some false := by decide +kernel
@[simp] theorem isaT_dict_bool : isaT "dict" "bool" = some false := by decide +kernel
@[simp] theorem isaT_dict_int : isaT "dict" "int" = some false := by decide +kernel
@[simp] theorem isaT_dict_str : isaT "dict" "str" = some false := by decide +kernel
@[simp] theorem isaT_dict_tuple : isaT "dict" "tuple" = some false := by decide +kernel
@[simp] theorem isaT_dict_list : isaT "dict" "list" = some false := by decide +kernel
@[simp] theorem isaT_dict_dict : isaT "dict" "dict" = some true := by decide +kernel
/-! comprehensions, loops -/
def kLc2 (r : Rs (List U)) : Rs U := match r with
  | .ok acc h2 => .ok (.ref h2.length) (h2 ++ [.lst acc])
  | _ => .bad
def kLc (r : Rs (List U × Gd)) (g : GM) (t : BM) (f : EM) (vs : List Nat) (ρ : En) : Rs U := r.bind fun ig h1 => kLc2 (goLc g t f ig.2 (wipeU ρ vs) ig.1 h1 [])
@[simp] theorem mLc_ev {vs : List Nat} : mLc it gm t f vs ρ h = kLc (it ρ h) gm t f vs ρ := rfl
@[simp] theorem kLc_ok {vs : List Nat} : kLc (.ok (us, gd) h) gm t f vs ρ = kLc2 (goLc gm t f gd (wipeU ρ vs) us h []) := rfl
@[simp] theorem kLc2_ok : kLc2 (.ok us h) = .ok (.ref h.length) (h ++ [.lst us]) := rfl
@[simp] theorem wipeU_nil : wipeU ρ [] = ρ := rfl
@[simp] theorem wipeU_cons {v : Nat} {vs : List Nat} : wipeU ρ (v :: vs) = (wipeU ρ vs).set v none := rfl
@[simp] theorem mYes_ev : mYes ρ h = .ok true h := rfl
@[simp] theorem gdOk_nil : gdOk [] h = true := rfl
theorem goLc_pure {F : U → U} : ∀ {us acc : List U}, (∀ u ∈ us, ∃ ρ1, gm u ρ h = some ρ1 ∧ f ρ1 h = .ok (F u) h) → acc.length + us.length ≤ 100000 → gdOk gd h = true → goLc gm mYes f gd ρ us h acc = .ok (acc ++ us.map F) h
  | [], acc, _, _, hg => by simp [goLc, hg]
  | u :: us, acc, hu, hl, hg => by
    obtain ⟨ρ1, e1, e2⟩ := hu u List.mem_cons_self
    have hlt : acc.length < bnd := by unfold bnd; simp at hl; omega
    unfold goLc
    rw [if_pos hg, e1]
    simp only [mYes_ev, if_true, e2, hlt]
    rw [goLc_pure (fun v hv => hu v (List.mem_cons_of_mem _ hv)) (by simp at hl ⊢; omega) hg]
    simp
def kRange (r : Rs (List U)) : Rs (List U × Gd) := r.bind fun us h1 => match us with
  | [.int j] => if j ≤ 100000 ∧ -100000 ≤ j then .ok (rngU 0 j.toNat, []) h1 else .bad
  | _ => .bad
@[simp] theorem mRange_ev : mRange gs ρ h = kRange (gs ρ h) := rfl
theorem kRange_ok {j : Int} (e : j ≤ 100000 ∧ -100000 ≤ j) : kRange (.ok [.int j] h) = .ok (rngU 0 j.toNat, []) h := if_pos e
theorem kRange_nat {j : Nat} (e : j ≤ 100000) : kRange (.ok [.int j] h) = .ok (rngU 0 j, []) h := by rw [kRange_ok (by omega)]; simp
def kIter2 (r : Option (List U × Gd)) (h : Os) : Rs (List U × Gd) := match r with
  | some ig => .ok ig h
  | none => .bad
def kIter (r : Rs U) : Rs (List U × Gd) := r.bind fun u h1 => kIter2 (iterOf h1 u) h1
@[simp] theorem mIter_ev : mIter f ρ h = kIter (f ρ h) := rfl
@[simp] theorem kIter_ok : kIter (.ok u h) = kIter2 (iterOf h u) h := rfl
@[simp] theorem kIter2_ok {ig : List U × Gd} : kIter2 (some ig) h = .ok ig h := rfl
@[simp] theorem iterOf_tup : iterOf h (.tup us) = some (us, []) := rfl
@[simp] theorem iterOf_fls : iterOf h (.fls us) = some (us, []) := rfl
theorem iterOf_lst (e : h[i]? = some (.lst us)) : iterOf h (.ref i) = some (us, [(i, us)]) := by unfold iterOf; simp [e]
def kFor (r : Rs (List U × Gd)) (g : GM) (b : SM) (ρ : En) : Rt := thenS r ρ fun ig h1 => goFor g b ig.2 ig.1 ρ h1
@[simp] theorem mFor_ev : mFor it gm a ρ h = kFor (it ρ h) gm a ρ := rfl
@[simp] theorem kFor_ok : kFor (.ok (us, gd) h) gm a ρ = goFor gm a gd us ρ h := rfl
/-- a loop, by what holds before each turn -/
theorem goFor_inv {P : Nat → En → Os → Prop} : ∀ {us : List U} {n : Nat}, (∀ i ρ h, P i ρ h → gdOk gd h = true) → (∀ i u ρ h, us[i]? = some u → P (n + i) ρ h → ∃ ρ1 ρ2 h2, gm u ρ h = some ρ1 ∧ a ρ1 h = .nx ρ2 h2 ∧ P (n + i + 1) ρ2 h2) →
    ∀ {ρ h}, P n ρ h → ∃ ρ' h', goFor gm a gd us ρ h = .nx ρ' h' ∧ P (n + us.length) ρ' h'
  | [], n, hg, _, ρ, h, p => ⟨ρ, h, by unfold goFor; rw [if_pos (hg _ _ _ p)], p⟩
  | u :: us, n, hg, hs, ρ, h, p => by
    obtain ⟨ρ1, ρ2, h2, e1, e2, p2⟩ := hs 0 u ρ h rfl p
    obtain ⟨ρ', h', e3, p3⟩ := goFor_inv (n := n + 1) (us := us) hg (fun i v ρ h e q => by
      have := hs (i + 1) v ρ h (by simpa using e) (by rw [show n + (i + 1) = n + 1 + i by omega]; exact q)
      rw [show n + (i + 1) + 1 = n + 1 + i + 1 by omega] at this
      exact this) p2
    refine ⟨ρ', h', ?_, by rw [List.length_cons, show n + (us.length + 1) = n + 1 + us.length by omega]; exact p3⟩
    unfold goFor
    rw [if_pos (hg _ _ _ p), e1]
    simp only [e2]
    exact e3
theorem rngU_get {j i : Nat} (e : i < j) : (rngU 0 j)[i]? = some (.int i) := by unfold rngU; simp [e]
theorem rngU_mem {j : Nat} {u : U} (e : u ∈ rngU 0 j) : ∃ i : Nat, i < j ∧ u = .int i := by
  unfold rngU at e
  obtain ⟨i, h1, h2⟩ := List.mem_map.mp e
  exact ⟨i, by simpa using h1, by rw [← h2]; simp⟩
theorem rngU_len {j : Nat} : (rngU 0 j).length = j := by unfold rngU; simp
/-! methods -/
@[simp] theorem isTy_str {s : Str} : isTy h "str" (.str s) = true := by unfold isTy; simp
theorem isTy_lst (e : h[i]? = some (.lst us)) : isTy h "list" (.ref i) = true := by unfold isTy; simp [e]
theorem bAppend_ok (e : h[i]? = some (.lst us)) (hl : us.length < 100000) : bAppend (.ref i) [u] h = .ok .non (h.set i (.lst (us ++ [u]))) := by unfold bAppend; simp [e, bnd, hl]
theorem strsOf_map : ∀ l : List Str, strsOf (l.map U.str) = some l
  | [] => rfl
  | x :: l => by rw [List.map_cons, strsOf, strsOf_map l]; rfl
theorem bJoin_ok {x : Str} {l : List Str} (e : h[i]? = some (.lst (l.map U.str))) (hl : (l.map (·.length)).sum + l.length * x.length ≤ 100000) : bJoin (.str x) [.ref i] h = .ok (.str (Txt.join x l)) h := by
  unfold bJoin itemsOf
  simp only [e]
  rw [strsOf_map]
  exact if_pos hl
theorem opIx_str {s : Str} {k c : Nat} (e : s.cps.toList[k]? = some c) (hl : s.length ≤ 100000) : opIx (.str s) (.int k) h = .ok (.str ⟨#[c]⟩) h := by
  unfold opIx
  simp only [show s.length ≤ bnd from hl, if_true, L2.atI_nat e]
theorem opIx_lst {k : Nat} (e : h[i]? = some (.lst us)) (e2 : us[k]? = some u) : opIx (.ref i) (.int k) h = .ok u h := by
  unfold opIx
  simp only [e, L2.atI_nat e2]
theorem bds_of {n : Nat} : ∀ {us : List U}, (∀ u ∈ us, U.bd n u = true) → U.bds n us = true
  | [], _ => rfl
  | u :: us, hu => by rw [U.bds, hu u List.mem_cons_self, bds_of fun v hv => hu v (List.mem_cons_of_mem _ hv)]; rfl
theorem bds_str {n : Nat} (l : List Str) : U.bds n (l.map U.str) = true := bds_of fun u hu => by
  obtain ⟨x, _, e⟩ := List.mem_map.mp hu
  rw [← e]
  rfl
theorem U.bd_mono {n m : Nat} (e : n ≤ m) : ∀ u : U, U.bd n u = true → U.bd m u = true := by
  intro u
  refine U.rec (motive_1 := fun u => U.bd n u = true → U.bd m u = true) (motive_2 := fun us => U.bds n us = true → U.bds m us = true) (fun _ => rfl) (fun _ _ => rfl) (fun _ _ => rfl) (fun _ _ => rfl) (fun _ _ => rfl) (fun k h => ?_) (fun _ _ => rfl) (fun _ ih h => ih h) (fun _ ih h => ih h) (fun _ => rfl) (fun _ _ i1 i2 h => ?_) u
  · have := of_decide_eq_true h
    exact decide_eq_true (by omega)
  · rw [U.bds, Bool.and_eq_true] at h ⊢
    exact ⟨i1 h.1, i2 h.2⟩
theorem O.bd_mono {n m : Nat} (e : n ≤ m) {o : O} (ho : O.bd n o = true) : O.bd m o = true := by
  have ks : ∀ {κ : Type} (l : List (κ × U)), (l.all fun p => U.bd n p.2) = true → (l.all fun p => U.bd m p.2) = true := fun l hl => List.all_eq_true.mpr fun p hp => U.bd_mono e _ (List.all_eq_true.mp hl p hp)
  have us : ∀ l : List U, U.bds n l = true → U.bds m l = true := fun l hl => U.bd_mono e (.tup l) hl
  cases o with
  | lst xs => exact us xs ho
  | dic kvs => exact ks kvs ho
  | diT kvs => exact ks kvs ho
  | ins c fs => exact ks fs ho
  | clo id caps => exact us caps ho
  | dead => rfl
theorem wf_snoc {o : O} (hw : wf h = true) (ho : O.bd (h.length + 1) o = true) : wf (h ++ [o]) = true := by
  unfold wf at hw ⊢
  rw [List.length_append, List.all_append, Bool.and_eq_true]
  refine ⟨List.all_eq_true.mpr fun q hq => O.bd_mono (by simp) (List.all_eq_true.mp hw q hq), ?_⟩
  simpa using ho
theorem wf_get {o : O} (hw : wf h = true) (e : h[i]? = some o) : O.bd h.length o = true := List.all_eq_true.mp hw o (List.mem_of_getElem? e)
theorem wf_set {o : O} (hw : wf h = true) (ho : O.bd h.length o = true) : wf (h.set i o) = true := by
  unfold wf at hw ⊢
  rw [List.length_set]
  refine List.all_eq_true.mpr fun q hq => ?_
  rcases List.mem_or_eq_of_mem_set hq with z | z
  · exact List.all_eq_true.mp hw q z
  · rw [z]; exact ho
/-! d[k] = v -/
def kPut4 (r : Option Os) (ρ : En) : Rt := match r with
  | some h4 => .nx ρ h4
  | none => .bad
def kPut3 (v o : U) (r : Rs U) (ρ : En) : Rt := thenS r ρ fun i h3 => kPut4 (match o with | .ref n => (match h3[n]? with | some (.lst _) => none | _ => setIx o i v h3) | _ => none) ρ
def kPut2 (v : U) (r : Rs U) (fi : EM) (ρ : En) : Rt := thenS r ρ fun o h2 => kPut3 v o (fi ρ h2) ρ
def kPut (r : Rs U) (fo fi : EM) (ρ : En) : Rt := thenS r ρ fun v h1 => kPut2 v (fo ρ h1) fi ρ
@[simp] theorem mDPut_ev : mDPut f g e ρ h = kPut (e ρ h) f g ρ := rfl
@[simp] theorem kPut_ok : kPut (.ok u h) f g ρ = kPut2 u (f ρ h) g ρ := rfl
@[simp] theorem kPut2_ok {v : U} : kPut2 v (.ok u h) g ρ = kPut3 v u (g ρ h) ρ := rfl
theorem kPut3_dic {v : U} {ks : List (L2.Key × U)} {k : L2.Key} (e : h[i]? = some (.dic ks)) (ek : keyOf u = some k) (hl : ks.length < 100000) : kPut3 v (.ref i) (.ok u h) ρ = .nx ρ (h.set i (.dic (putU ks k v))) := by
  unfold kPut3 kPut4 thenS setIx
  simp [e, ek, bnd, hl]
theorem bDict_dic {ks : List (L2.Key × U)} (e : h[i]? = some (.dic ks)) : bDict [.ref i] h = .ok (.ref h.length) (h ++ [.dic ks]) := by unfold bDict; simp [e]
theorem opIx_dic {ks : List (L2.Key × U)} {k : L2.Key} {v : U} (e : h[i]? = some (.dic ks)) (ek : keyOf u = some k) (ev : lookU ks k = some v) : opIx (.ref i) u h = .ok v h := by
  unfold opIx dGet
  simp [e, ek, ev]
@[simp] theorem keyOf_str {s : Str} : keyOf (.str s) = some (.inr s) := rfl
@[simp] theorem keyOf_int {j : Int} : keyOf (.int j) = some (.inl j) := rfl
/-! zip, all -/
def kZip2 (r : Option (List U × Gd)) (h : Os) : Rs (List U × Gd) := match r with
  | some ig => .ok ig h
  | none => .bad
def kZip (r : Rs (List U)) : Rs (List U × Gd) := r.bind fun us h1 => match us with
  | [x, y] => kZip2 (zipOf h1 x y) h1
  | _ => .bad
theorem mZip_ev0 : mZip gs ρ h = kZip (gs ρ h) := by
  unfold mZip kZip
  congr 1
@[simp] theorem mZip_ev : mZip gs ρ h = kZip (gs ρ h) := mZip_ev0
@[simp] theorem kZip_tt {xs ys : List U} : kZip (.ok [.tup xs, .tup ys] h) = .ok (zipU xs ys, []) h := rfl
theorem blsOf_true : ∀ n : Nat, blsOf (List.replicate n (.bl true)) = some (List.replicate n true)
  | 0 => rfl
  | n + 1 => by rw [List.replicate_succ, blsOf, blsOf_true n]; rfl
theorem bAll_true {n : Nat} (e : h[i]? = some (.lst (List.replicate n (.bl true)))) : bAll [.ref i] h = .ok (.bl true) h := by
  unfold bAll
  simp only [e, blsOf_true]
  simp
theorem gc_len {n : Nat} (e : h.length = n) : gc n (.ok u h) = .ok u h := by subst e; exact gc_same u h
/-- what leaves behind a thing that tells of what is new -/
theorem gc_keep {n : Nat} (e : (h.take n).all (O.bd n) = false) : gc n (.ok u h) = .ok u h := by
  unfold gc
  simp [e]
theorem kill_id : ∀ {h : Os}, h.all noClo = true → kill h = h
  | [], _ => rfl
  | o :: h, e => by
    rw [List.all_cons, Bool.and_eq_true] at e
    show kill1 o :: kill h = _
    rw [kill_id e.2]
    cases o with
    | clo id caps => cases e.1
    | _ => rfl
theorem zipBack_id : ∀ {h0 h : Os}, h0.all noClo = true → zipBack h0 h = h
  | [], h, _ => by cases h <;> rfl
  | o :: h0, [], _ => by cases o <;> rfl
  | o :: h0, q :: h, e => by
    rw [List.all_cons, Bool.and_eq_true] at e
    cases o with
    | clo id caps => cases e.1
    | _ => simp [zipBack, zipBack_id e.2]
theorem zipBack_app {t : Os} : ∀ {h0 h : Os}, h0.all noClo = true → h.length = h0.length → zipBack (h0 ++ t) (h ++ h1) = h ++ zipBack t h1
  | [], [], _, _ => rfl
  | o :: h0, q :: h, e, l => by
    rw [List.all_cons, Bool.and_eq_true] at e
    have ih := zipBack_app (t := t) e.2 (show h.length = h0.length by simpa using l)
    cases o with
    | clo id caps => cases e.1
    | _ => show zipBack (_ :: (h0 ++ t)) (q :: (h ++ h1)) = _; simp [zipBack, ih]
/-- a lambda handed over: the callee leaves all as it was -/
theorem lamGo_pure {id : Nat} {caps : List U} (hn : h.all noClo = true) (hw : wf h = true) (hu : U.bd h.length u = true) (e : fn (us ++ [.ref h.length]) (h ++ [.clo id caps]) = .ok u (h ++ [.clo id caps])) : lamGo fn id caps us h = .ok u h := by
  unfold lamGo
  rw [kill_id hn, e]
  unfold finLam
  dsimp only
  have es : (h ++ [.clo id caps] : Os).set h.length .dead = h ++ [.dead] := by simp
  rw [es, if_pos (by rw [List.all_append, hn]; rfl), zipBack_id hn]
  exact gc_cut rfl hw hu
/-- .. the callee leaves h', with t more -/
theorem lamGo_of {id : Nat} {caps : List U} {h' t : Os} (hn : h.all noClo = true) (hn' : h'.all noClo = true) (ht : t.all noClo = true) (hl : h'.length = h.length) (e : fn (us ++ [.ref h.length]) (h ++ [.clo id caps]) = .ok u (h' ++ .clo id caps :: t)) : lamGo fn id caps us h = gc h.length (.ok u (h' ++ .dead :: t)) := by
  unfold lamGo
  rw [kill_id hn, e]
  unfold finLam
  dsimp only
  have es : (h' ++ .clo id caps :: t : Os).set h.length .dead = h' ++ .dead :: t := by rw [← hl]; simp
  rw [es, if_pos (by rw [List.all_append, hn', List.all_cons, ht]; rfl), zipBack_id hn]
def kLam1 (fn : FnU) (id : Nat) (caps : List U) (u1 : U) (r : Rs U) : Rs U := r.bind fun u2 h2 => lamGo fn id caps [u1, u2] h2
def kLam (fn : FnU) (id : Nat) (caps : List U) (r : Rs U) (f2 : EM) (ρ : En) : Rs U := r.bind fun u1 h1 => kLam1 fn id caps u1 (f2 ρ h1)
theorem mCallLam_ev {id : Nat} {js : List Nat} {caps : List U} (e : capsOf ρ js = some caps) : mCallLam fn id js f g ρ h = kLam fn id caps (f ρ h) g ρ := by
  unfold mCallLam
  rw [e]
  rfl
@[simp] theorem kLam_ok {id : Nat} {caps : List U} : kLam fn id caps (.ok u h) g ρ = kLam1 fn id caps u (g ρ h) := rfl
@[simp] theorem kLam1_ok {id : Nat} {caps : List U} : kLam1 fn id caps u (.ok w h) = lamGo fn id caps [u, w] h := rfl
/-- a comprehension, item by item -/
theorem goLc_rel : ∀ {us rs acc : List U}, us.length = rs.length → (∀ (i : Nat) (u r : U), us[i]? = some u → rs[i]? = some r → ∃ ρ1, gm u ρ h = some ρ1 ∧ f ρ1 h = .ok r h) → acc.length + us.length ≤ 100000 → gdOk gd h = true → goLc gm mYes f gd ρ us h acc = .ok (acc ++ rs) h
  | [], [], acc, _, _, _, hg => by simp [goLc, hg]
  | u :: us, r :: rs, acc, hlen, hu, hl, hg => by
    obtain ⟨ρ1, e1, e2⟩ := hu 0 u r rfl rfl
    have hlt : acc.length < bnd := by unfold bnd; simp at hl; omega
    unfold goLc
    rw [if_pos hg, e1]
    simp only [mYes_ev, if_true, e2, hlt]
    rw [goLc_rel (rs := rs) (by simpa using hlen) (fun i v r hv hr => hu (i + 1) v r (by simpa using hv) (by simpa using hr)) (by simp at hl ⊢; omega) hg]
    simp
@[simp] theorem noP_ev : mNoP ρ h = .ok none h := rfl
theorem opAdd_l {j : Nat} {xs ys : List U} (e : h[i]? = some (.lst xs)) (e2 : h[j]? = some (.lst ys)) (hl : xs.length + ys.length ≤ 100000) : opAdd (.ref i) (.ref j) h = .ok (.ref h.length) (h ++ [.lst (xs ++ ys)]) := by
  unfold opAdd
  simp only [e, e2]
  exact if_pos hl
theorem mSl_of {x : U} {h2 h3 : Os} {lo hi : Option Int} {a b : OM} (e1 : f ρ h = .ok x h1) (e2 : a ρ h1 = .ok lo h2) (e3 : b ρ h2 = .ok hi h3) : mSl' f a b ρ h = opSl' x lo hi h3 := by
  unfold mSl'
  rw [e1]
  show (a ρ h1).bind _ = _
  rw [e2]
  show (b ρ h2).bind _ = _
  rw [e3]
  rfl
theorem opSl_lst {xs : List U} {lo hi : Option Int} (e : h[i]? = some (.lst xs)) : opSl' (.ref i) lo hi h = .ok (.ref h.length) (h ++ [.lst (cutU xs lo hi)]) := by
  unfold opSl' opSl
  simp only [e]
theorem bTuple_lst (e : h[i]? = some (.lst us)) : bTuple [.ref i] h = .ok (.tup us) h := by unfold bTuple; simp [e]
theorem bLen_lst (e : h[i]? = some (.lst us)) : bLen [.ref i] h = .ok (.int us.length) h := by unfold bLen; simp [e]
theorem mClo_of {n id : Nat} {fnc : Nat → CloU} {np : Nat → Option Nat} {caps : List U} {o : Nat × List U} (e1 : cloAt ρ i = some n) (e2 : isClo h n = some o) (e3 : gs ρ h = .ok us h1) (e4 : isClo h1 n = some (id, caps)) (e5 : np id = some us.length) : mClo i fnc np gs ρ h = back h1 (fnc id caps us (kill h1)) := by
  unfold mClo
  rw [e1]
  simp only [e2, e3, Rs.bind]
  unfold cloGo
  simp only [e4]
  exact if_pos e5
theorem zipBack_set : ∀ {h : Os} {i : Nat} {o : O}, (∀ id caps, h[i]? ≠ some (.clo id caps)) → zipBack h ((kill h).set i o) = h.set i o
  | [], i, o, _ => by cases i <;> rfl
  | q :: h, 0, o, hc => by
    have same : ∀ h : Os, zipBack h (kill h) = h := fun h => by
      induction h with
      | nil => rfl
      | cons p h ih => cases p <;> simp [zipBack, kill, kill1] at ih ⊢ <;> exact ih
    cases q with
    | clo id caps => exact absurd rfl (hc id caps)
    | _ => show zipBack _ (o :: kill h) = _; simp [zipBack, same]
  | q :: h, i + 1, o, hc => by
    have ih := zipBack_set (h := h) (i := i) (o := o) fun id caps e => hc id caps (by simpa using e)
    cases q with
    | clo id caps => show zipBack _ (_ :: (kill h).set i o) = _; simp [zipBack, ih]
    | _ => show zipBack _ (_ :: (kill h).set i o) = _; simp [zipBack, ih, kill1]
end
end SD
namespace K71
open PySem PySem.Spec PyProof.Rows L2 LamX NdefX SD
def top (i : Nat) : Stmt := PySem.Challenge.pw_sealhouse_k71_single_expressions.main.body.getD i (.Pass ⟨0, 0, 0, 0⟩)
abbrev s0 : Stmt := top 1
abbrev s1 : Stmt := top 2
abbrev s2 : Stmt := top 3
abbrev s3 : Stmt := top 4
abbrev s4 : Stmt := top 6
abbrev s5 : Stmt := top 7
abbrev s6 : Stmt := top 8
abbrev s7 : Stmt := top 9
abbrev s8 : Stmt := top 10
abbrev s9 : Stmt := top 11
abbrev s10 : Stmt := top 12
abbrev s11 : Stmt := top 13
abbrev s12 : Stmt := top 14
def lam0 : Expr := (eArg (sVal (sAt (sBody (sAt (defBody s12) 13)) 0)) 2)
def li0 : LI := ⟨lamArgs lam0, lamBody lam0, lamScope lam0, ["_law_q", "_law_f", "_law_values"], ["_law_heard", "_law_reply"]⟩
def lam1 : Expr := (eArg (sVal (sAt (defBody s12) 19)) 2)
def li1 : LI := ⟨lamArgs lam1, lamBody lam1, lamScope lam1, ["_law_q", "_law_f", "_law_values"], ["_law_heard", "_law_reply"]⟩
def tb : Nat → Option LI
  | 0 => some li0
  | 1 => some li1
  | _ => none
def sig : Nat → Option (Str × Nat)
  | 0 => some ("reckoned", 4)
  | 1 => some ("tested", 3)
  | 2 => some ("value_let", 3)
  | 3 => some ("value_of", 3)
  | 4 => some ("_law_cell_at", 2)
  | 5 => some ("_law_whole", 1)
  | 6 => some ("_law_alike", 2)
  | 7 => some ("_law_words", 2)
  | 8 => some ("_law_side", 4)
  | 9 => some ("_law_noted", 3)
  | 10 => some ("_law_reckoned", 5)
  | 11 => some ("_law_cases", 6)
  | 12 => some ("law", 1)
  | _ => none
structure Bi (mg : Str → Option Value) : Prop where
  z_all : mg "all" = none
  z_bool : mg "bool" = none
  z_dict : mg "dict" = none
  z_int : mg "int" = none
  z_isinstance : mg "isinstance" = none
  z_len : mg "len" = none
  z_list : mg "list" = none
  z_range : mg "range" = none
  z_str : mg "str" = none
  z_tuple : mg "tuple" = none
  z_zip : mg "zip" = none
/-- reckoned -/
def b0 (R : Nat → FnU) (RC : Nat → CloU) : SM :=
  (mSeq (mIfS (mTru (mBin opEq (mVar 0) (mC (.str "+")))) (mRet (mBin opMod (mBin opAdd (mVar 2) (mVar 3)) (mVar 1))) mSkip)
    (mSeq (mIfS (mTru (mBin opEq (mVar 0) (mC (.str "-")))) (mRet (mBin opMod (mBin opSub (mVar 2) (mVar 3)) (mVar 1))) mSkip)
    (mRet (mBin opMod (mBin opMul (mVar 2) (mVar 3)) (mVar 1)))))
/-- tested -/
def b1 (R : Nat → FnU) (RC : Nat → CloU) : SM :=
  (mSeq (mIfS (mTru (mBin opEq (mVar 0) (mC (.str "=")))) (mRet (mCB bInt (mCons (mBin opEq (mVar 1) (mVar 2)) mNil))) mSkip)
    (mRet (mCB bInt (mCons (mBin opLt (mVar 1) (mVar 2)) mNil))))
/-- value_let -/
def b2 (R : Nat → FnU) (RC : Nat → CloU) : SM :=
  (mSeq (mAsg (mCB bDict (mCons (mVar 1) mNil)) (gN 3))
    (mSeq (mDPut (mVar 3) (mBin opIx (mVar 0) (mC (.int 1))) (mCall 3 (R 3) (mCons (mBin opIx (mVar 0) (mC (.int 2))) (mCons (mVar 1) (mCons (mVar 2) mNil)))))
    (mRet (mCall 3 (R 3) (mCons (mBin opIx (mVar 0) (mC (.int 3))) (mCons (mVar 3) (mCons (mVar 2) mNil)))))))
/-- value_of -/
def b3 (R : Nat → FnU) (RC : Nat → CloU) : SM :=
  (mSeq (mAsg (mBin opIx (mVar 0) (mC (.int 0))) (gN 3))
    (mSeq (mIfS (mTru (mBin opEq (mVar 3) (mC (.str "lit")))) (mRet (mBin opIx (mVar 0) (mC (.int 1)))) mSkip)
    (mSeq (mIfS (mTru (mBin opEq (mVar 3) (mC (.str "var")))) (mRet (mBin opIx (mVar 1) (mBin opIx (mVar 0) (mC (.int 1))))) mSkip)
    (mSeq (mIfS (mTru (mBin opEq (mVar 3) (mC (.str "op")))) (mSeq (mAsg (mCall 3 (R 3) (mCons (mBin opIx (mVar 0) (mC (.int 3))) (mCons (mVar 1) (mCons (mVar 2) mNil)))) (gN 4))
    (mRet (mCall 4 (R 0) (mCons (mBin opIx (mVar 0) (mC (.int 1))) (mCons (mBin opIx (mVar 0) (mC (.int 2))) (mCons (mVar 4) (mCons (mCall 3 (R 3) (mCons (mBin opIx (mVar 0) (mC (.int 4))) (mCons (mVar 1) (mCons (mVar 2) mNil)))) mNil))))))) mSkip)
    (mSeq (mIfS (mTru (mBin opEq (mVar 3) (mC (.str "test")))) (mSeq (mAsg (mCall 3 (R 3) (mCons (mBin opIx (mVar 0) (mC (.int 2))) (mCons (mVar 1) (mCons (mVar 2) mNil)))) (gN 4))
    (mRet (mCall 3 (R 1) (mCons (mBin opIx (mVar 0) (mC (.int 1))) (mCons (mVar 4) (mCons (mCall 3 (R 3) (mCons (mBin opIx (mVar 0) (mC (.int 3))) (mCons (mVar 1) (mCons (mVar 2) mNil)))) mNil)))))) mSkip)
    (mSeq (mIfS (mTru (mBin opEq (mVar 3) (mC (.str "as")))) (mRet (mBin opMod (mCall 3 (R 3) (mCons (mBin opIx (mVar 0) (mC (.int 2))) (mCons (mVar 1) (mCons (mVar 2) mNil)))) (mBin opIx (mVar 0) (mC (.int 1))))) mSkip)
    (mSeq (mIfS (mTru (mBin opEq (mVar 3) (mC (.str "if")))) (mSeq (mIfS (mTru (mBin opEq (mCall 3 (R 3) (mCons (mBin opIx (mVar 0) (mC (.int 1))) (mCons (mVar 1) (mCons (mVar 2) mNil)))) (mC (.int 1)))) (mRet (mCall 3 (R 3) (mCons (mBin opIx (mVar 0) (mC (.int 2))) (mCons (mVar 1) (mCons (mVar 2) mNil))))) mSkip)
    (mRet (mCall 3 (R 3) (mCons (mBin opIx (mVar 0) (mC (.int 3))) (mCons (mVar 1) (mCons (mVar 2) mNil)))))) mSkip)
    (mSeq (mIfS (mTru (mBin opEq (mVar 3) (mC (.str "let")))) (mRet (mCall 3 (R 2) (mCons (mVar 0) (mCons (mVar 1) (mCons (mVar 2) mNil))))) mSkip)
    (mSeq (mIfS (mTru (mBin opEq (mVar 3) (mC (.str "two")))) (mSeq (mAsg (mCall 3 (R 3) (mCons (mBin opIx (mVar 0) (mC (.int 1))) (mCons (mVar 1) (mCons (mVar 2) mNil)))) (gN 4))
    (mRet (mTup (mCons (mVar 4) (mCons (mCall 3 (R 3) (mCons (mBin opIx (mVar 0) (mC (.int 2))) (mCons (mVar 1) (mCons (mVar 2) mNil)))) mNil))))) mSkip)
    (mSeq (mIfS (mTru (mBin opEq (mVar 3) (mC (.str "call")))) (mSeq (mAsg (mLc (mIter (mBin opIx (mVar 0) (mC (.int 3)))) (gN 6) mYes (mCall 3 (R 3) (mCons (mVar 6) (mCons (mVar 1) (mCons (mVar 2) mNil)))) [6]) (gN 5))
    (mRet (mClo 2 RC (npOf tb) (mCons (mBin opIx (mVar 0) (mC (.int 1))) (mCons (mBin opIx (mVar 0) (mC (.int 2))) (mCons (mVar 5) mNil)))))) mSkip)
    (mRet (mBin opIx (mCall 3 (R 3) (mCons (mBin opIx (mVar 0) (mC (.int 1))) (mCons (mVar 1) (mCons (mVar 2) mNil)))) (mCB bInt (mCons (mBin opEq (mVar 3) (mC (.str "second"))) mNil))))))))))))))
/-- _law_cell_at -/
def b4 (R : Nat → FnU) (RC : Nat → CloU) : SM :=
  (mSeq (mIfS (mTru (mBin opLt (mVar 1) (mCB bLen (mCons (mVar 0) mNil)))) (mRet (mBin opIx (mVar 0) (mVar 1))) mSkip)
    (mSeq (mAsg (mBin opAdd (mBin opMul (mC (.int 7919)) (mVar 1)) (mC (.int 11))) (gN 2))
    (mSeq (mIfS (mTru (mBin opGt (mCB bLen (mCons (mVar 0) mNil)) (mC (.int 0)))) (mAsg (mBin opAdd (mBin opMul (mBin opMod (mBin opIx (mVar 0) (mBin opMod (mVar 1) (mCB bLen (mCons (mVar 0) mNil)))) (mC (.int 1000003))) (mC (.int 48271))) (mBin opMul (mBin opMul (mC (.int 7919)) (mVar 1)) (mVar 1))) (gN 2)) mSkip)
    (mRet (mBin opMod (mVar 2) (mC (.int 2147483647)))))))
/-- _law_whole -/
def b5 (R : Nat → FnU) (RC : Nat → CloU) : SM :=
  (mRet (mAndV (mCB bIsa (mCons (mVar 0) (mCons (mC (.ty "int")) mNil))) (mNotV (mCB bIsa (mCons (mVar 0) (mCons (mC (.ty "bool")) mNil))))))
/-- _law_alike -/
def b6 (R : Nat → FnU) (RC : Nat → CloU) : SM :=
  (mSeq (mIfS (mTru (mCB bIsa (mCons (mVar 1) (mCons (mC (.ty "tuple")) mNil)))) (mSeq (mIfS (mOr (mNot (mTru (mCB bIsa (mCons (mVar 0) (mCons (mC (.ty "tuple")) mNil))))) (mTru (mBin opNe (mCB bLen (mCons (mVar 0) mNil)) (mCB bLen (mCons (mVar 1) mNil))))) (mRet (mC (.bl false))) mSkip)
    (mRet (mCB bAll (mCons (mLc (mZip (mCons (mVar 0) (mCons (mVar 1) mNil))) (gTL [(gN 2), (gN 3)]) mYes (mCall 2 (R 6) (mCons (mVar 2) (mCons (mVar 3) mNil))) [2, 3]) mNil)))) mSkip)
    (mSeq (mIfS (mTru (mCB bIsa (mCons (mVar 1) (mCons (mC (.ty "str")) mNil)))) (mRet (mAndV (mCB bIsa (mCons (mVar 0) (mCons (mC (.ty "str")) mNil))) (mBin opEq (mVar 0) (mVar 1)))) mSkip)
    (mRet (mAndV (mCall 1 (R 5) (mCons (mVar 0) mNil)) (mBin opEq (mVar 0) (mVar 1))))))
/-- _law_words -/
def b7 (R : Nat → FnU) (RC : Nat → CloU) : SM :=
  (mSeq (mAsg (mC (.str "abcdefghijklmnopqrstuvwxyz")) (gN 2))
    (mSeq (mAsg (mBin opMod (mVar 0) (mC (.int 12))) (gN 3))
    (mSeq (mIfS (mTru (mBin opEq (mVar 3) (mC (.int 0)))) (mRet (mLc (mRange (mCons (mVar 1) mNil)) (gN 4) mYes (mBin opIx (mVar 2) (mBin opMod (mBin opAdd (mBin opDiv (mVar 0) (mC (.int 12))) (mVar 4)) (mC (.int 26)))) [4])) mSkip)
    (mSeq (mAsg (mBin opMod (mBin opDiv (mVar 0) (mC (.int 12))) (mVar 3)) (gN 5))
    (mSeq (mAsg (mLst mNil) (gN 6))
    (mSeq (mFor (mRange (mCons (mVar 1) mNil)) (gN 4) (mSeq (mAsg (mLc (mRange (mCons (mVar 3) mNil)) (gN 8) mYes (mBin opIx (mVar 2) (mBin opMod (mBin opAdd (mBin opAdd (mBin opDiv (mVar 0) (mC (.int 432))) (mBin opMul (mBin opMul (mC (.int 7)) (mVar 8)) (mVar 8))) (mBin opMul (mVar 4) (mCB bInt (mCons (mBin opEq (mVar 8) (mVar 5)) mNil)))) (mC (.int 26)))) [8]) (gN 7))
    (mDrop (mBM "list" bAppend (mVar 6) (mCons (mBin opAdd (mBin opIx (mC (.str "kqz")) (mBin opMod (mBin opDiv (mVar 0) (mC (.int 144))) (mC (.int 3)))) (mBM "str" bJoin (mC (.str "")) (mCons (mVar 7) mNil))) mNil)))))
    (mRet (mVar 6))))))))
/-- _law_side -/
def b8 (R : Nat → FnU) (RC : Nat → CloU) : SM :=
  (mSeq (mIfS (mTru (mBin opEq (mBin opMod (mVar 0) (mC (.int 2))) (mC (.int 0)))) (mRet (mTup (mCons (mC (.str "lit")) (mCons (mVar 2) (mCons (mVar 3) mNil))))) mSkip)
    (mRet (mTup (mCons (mC (.str "var")) (mCons (mVar 1) mNil)))))
/-- _law_noted -/
def b9 (R : Nat → FnU) (RC : Nat → CloU) : SM :=
  (mSeq (mDrop (mBM "list" bAppend (mVar 0) (mCons (mVar 1) mNil)))
    (mRet (mVar 2)))
/-- _law_reckoned -/
def b10 (R : Nat → FnU) (RC : Nat → CloU) : SM :=
  (mRet (mLst (mCons (mTup (mCons (mTup (mCons (mC (.str "op")) (mCons (mC (.str "+")) (mCons (mVar 4) (mCons (mVar 0) (mCons (mVar 1) mNil)))))) (mCons (mBin opMod (mBin opAdd (mVar 2) (mVar 3)) (mVar 4)) mNil))) (mCons (mTup (mCons (mTup (mCons (mC (.str "op")) (mCons (mC (.str "-")) (mCons (mVar 4) (mCons (mVar 0) (mCons (mVar 1) mNil)))))) (mCons (mBin opMod (mBin opSub (mVar 2) (mVar 3)) (mVar 4)) mNil))) (mCons (mTup (mCons (mTup (mCons (mC (.str "op")) (mCons (mC (.str "*")) (mCons (mVar 4) (mCons (mVar 0) (mCons (mVar 1) mNil)))))) (mCons (mBin opMod (mBin opMul (mVar 2) (mVar 3)) (mVar 4)) mNil))) (mCons (mTup (mCons (mTup (mCons (mC (.str "test")) (mCons (mC (.str "=")) (mCons (mVar 0) (mCons (mVar 1) mNil))))) (mCons (mCB bInt (mCons (mBin opEq (mVar 2) (mVar 3)) mNil)) mNil))) (mCons (mTup (mCons (mTup (mCons (mC (.str "test")) (mCons (mC (.str "<")) (mCons (mVar 0) (mCons (mVar 1) mNil))))) (mCons (mCB bInt (mCons (mBin opLt (mVar 2) (mVar 3)) mNil)) mNil))) mNil)))))))
/-- _law_cases -/
def b11 (R : Nat → FnU) (RC : Nat → CloU) : SM :=
  (mSeq (mAsg (mVar 0) (gTL [(gN 6), (gN 7), (gN 8), (gN 9)]))
    (mSeq (mAsg (mTup (mCons (mC (.str "two")) (mCons (mVar 1) (mCons (mVar 2) mNil)))) (gN 10))
    (mRet (mLst (mCons (mTup (mCons (mTup (mCons (mC (.str "lit")) (mCons (mVar 3) (mCons (mBin opAdd (mVar 3) (mC (.int 1))) mNil)))) (mCons (mVar 3) mNil))) (mCons (mTup (mCons (mTup (mCons (mC (.str "var")) (mCons (mVar 7) mNil))) (mCons (mVar 4) mNil))) (mCons (mTup (mCons (mTup (mCons (mC (.str "var")) (mCons (mVar 8) mNil))) (mCons (mTup (mCons (mVar 3) (mCons (mVar 4) mNil))) mNil))) (mCons (mTup (mCons (mTup (mCons (mC (.str "as")) (mCons (mVar 5) (mCons (mVar 1) mNil)))) (mCons (mBin opMod (mVar 3) (mVar 5)) mNil))) (mCons (mTup (mCons (mTup (mCons (mC (.str "if")) (mCons (mTup (mCons (mC (.str "lit")) (mCons (mC (.int 1)) (mCons (mC (.int 2)) mNil)))) (mCons (mVar 1) (mCons (mVar 2) mNil))))) (mCons (mVar 3) mNil))) (mCons (mTup (mCons (mTup (mCons (mC (.str "if")) (mCons (mTup (mCons (mC (.str "lit")) (mCons (mC (.int 0)) (mCons (mC (.int 2)) mNil)))) (mCons (mVar 1) (mCons (mVar 2) mNil))))) (mCons (mVar 4) mNil))) (mCons (mTup (mCons (mTup (mCons (mC (.str "let")) (mCons (mVar 7) (mCons (mVar 1) (mCons (mTup (mCons (mC (.str "two")) (mCons (mTup (mCons (mC (.str "var")) (mCons (mVar 7) mNil))) (mCons (mTup (mCons (mC (.str "var")) (mCons (mVar 6) mNil))) mNil)))) mNil))))) (mCons (mTup (mCons (mVar 3) (mCons (mVar 3) mNil))) mNil))) (mCons (mTup (mCons (mTup (mCons (mC (.str "let")) (mCons (mVar 9) (mCons (mVar 2) (mCons (mTup (mCons (mC (.str "two")) (mCons (mTup (mCons (mC (.str "var")) (mCons (mVar 9) mNil))) (mCons (mTup (mCons (mC (.str "var")) (mCons (mVar 8) mNil))) mNil)))) mNil))))) (mCons (mTup (mCons (mVar 4) (mCons (mTup (mCons (mVar 3) (mCons (mVar 4) mNil))) mNil))) mNil))) (mCons (mTup (mCons (mVar 10) (mCons (mTup (mCons (mVar 3) (mCons (mVar 4) mNil))) mNil))) (mCons (mTup (mCons (mTup (mCons (mC (.str "first")) (mCons (mVar 10) mNil))) (mCons (mVar 3) mNil))) (mCons (mTup (mCons (mTup (mCons (mC (.str "second")) (mCons (mVar 10) mNil))) (mCons (mVar 4) mNil))) (mCons (mTup (mCons (mTup (mCons (mC (.str "second")) (mCons (mTup (mCons (mC (.str "var")) (mCons (mVar 8) mNil))) mNil))) (mCons (mVar 4) mNil))) mNil))))))))))))))))
/-- law -/
def b12_21 (R : Nat → FnU) (RC : Nat → CloU) : SM :=
  (mRet (mAndV (mBin opEq (mVar 10) (mLst (mCons (mTup (mCons (mVar 17) (mCons (mVar 18) (mCons (mSl' (mLst (mCons (mVar 3) (mCons (mVar 4) (mCons (mVar 3) (mCons (mVar 4) mNil))))) mNoP (mPart (mVar 16))) mNil)))) mNil))) (mBin opEq (mVar 9) (mVar 8))))
def b12_20 (R : Nat → FnU) (RC : Nat → CloU) : SM :=
  (mSeq (mIfS (mOr (mNot (mTru (mCall 2 (R 6) (mCons (mVar 15) (mCons (mVar 11) mNil))))) (mOr (mTru (mBin opNe (mCB bLen (mCons (mVar 10) mNil)) (mC (.int 1)))) (mNot (mTru (mCB bIsa (mCons (mBin opIx (mBin opIx (mVar 10) (mC (.int 0))) (mC (.int 2))) (mCons (mC (.ty "list")) mNil))))))) (mRet (mC (.bl false))) mSkip)
    (b12_21 R RC))
def b12_19 (R : Nat → FnU) (RC : Nat → CloU) : SM :=
  (mSeq (mAsg (mCallLam (R 3) 1 [10, 11] (mVar 19) (mVar 9)) (gN 15))
    (b12_20 R RC))
def b12_18 (R : Nat → FnU) (RC : Nat → CloU) : SM :=
  (mSeq (mAsg (mTup (mCons (mC (.str "call")) (mCons (mVar 17) (mCons (mVar 18) (mCons (mCB bTuple (mCons (mSl' (mLst (mCons (mVar 6) (mCons (mVar 7) (mCons (mVar 6) (mCons (mVar 7) mNil))))) mNoP (mPart (mVar 16))) mNil)) mNil))))) (gN 19))
    (b12_19 R RC))
def b12_17 (R : Nat → FnU) (RC : Nat → CloU) : SM :=
  (mSeq (mIfS (mTru (mBin opEq (mBin opMod (mCall 2 (R 4) (mCons (mVar 0) (mCons (mC (.int 9)) mNil))) (mC (.int 3))) (mC (.int 0)))) (mAsg (mC (.str "")) (gN 17)) mSkip)
    (b12_18 R RC))
def b12_16 (R : Nat → FnU) (RC : Nat → CloU) : SM :=
  (mSeq (mAsg (mCall 2 (R 7) (mCons (mCall 2 (R 4) (mCons (mVar 0) (mCons (mC (.int 8)) mNil))) (mCons (mC (.int 2)) mNil))) (gTL [(gN 17), (gN 18)]))
    (b12_17 R RC))
def b12_15 (R : Nat → FnU) (RC : Nat → CloU) : SM :=
  (mSeq (mAsg (mBin opMod (mBin opDiv (mCall 2 (R 4) (mCons (mVar 0) (mCons (mC (.int 7)) mNil))) (mC (.int 2))) (mC (.int 5))) (gN 16))
    (b12_16 R RC))
def b12_14 (R : Nat → FnU) (RC : Nat → CloU) : SM :=
  (mSeq (mIfS (mOr (mTru (mBin opNe (mVar 10) (mLst mNil))) (mTru (mBin opNe (mVar 9) (mVar 8)))) (mRet (mC (.bl false))) mSkip)
    (b12_15 R RC))
def b12_13 (R : Nat → FnU) (RC : Nat → CloU) : SM :=
  (mSeq (mFor (mIter (mVar 12)) (gTL [(gN 13), (gN 14)]) (mSeq (mAsg (mCallLam (R 3) 0 [10, 11] (mVar 13) (mVar 9)) (gN 15))
    (mIfS (mNot (mTru (mCall 2 (R 6) (mCons (mVar 15) (mCons (mVar 14) mNil))))) (mRet (mC (.bl false))) mSkip)))
    (b12_14 R RC))
def b12_12 (R : Nat → FnU) (RC : Nat → CloU) : SM :=
  (mSeq (mAsg (mBin opAdd (mCall 5 (R 10) (mCons (mVar 6) (mCons (mVar 7) (mCons (mVar 3) (mCons (mVar 4) (mCons (mVar 1) mNil)))))) (mCall 6 (R 11) (mCons (mVar 5) (mCons (mVar 6) (mCons (mVar 7) (mCons (mVar 3) (mCons (mVar 4) (mCons (mVar 2) mNil)))))))) (gN 12))
    (b12_13 R RC))
def b12_11 (R : Nat → FnU) (RC : Nat → CloU) : SM :=
  (mSeq (mAsg (mBin opIx (mLst (mCons (mVar 4) (mCons (mTup (mCons (mVar 4) (mCons (mVar 3) mNil))) mNil))) (mBin opMod (mCall 2 (R 4) (mCons (mVar 0) (mCons (mC (.int 7)) mNil))) (mC (.int 2)))) (gN 11))
    (b12_12 R RC))
def b12_10 (R : Nat → FnU) (RC : Nat → CloU) : SM :=
  (mSeq (mAsg (mLst mNil) (gN 10))
    (b12_11 R RC))
def b12_9 (R : Nat → FnU) (RC : Nat → CloU) : SM :=
  (mSeq (mAsg (mCB bDict (mCons (mVar 8) mNil)) (gN 9))
    (b12_10 R RC))
def b12_8 (R : Nat → FnU) (RC : Nat → CloU) : SM :=
  (mSeq (mAsg (mDisp [((mBin opIx (mVar 5) (mC (.int 0))), (mVar 3)), ((mBin opIx (mVar 5) (mC (.int 1))), (mVar 4)), ((mBin opIx (mVar 5) (mC (.int 2))), (mTup (mCons (mVar 3) (mCons (mVar 4) mNil))))]) (gN 8))
    (b12_9 R RC))
def b12_7 (R : Nat → FnU) (RC : Nat → CloU) : SM :=
  (mSeq (mAsg (mCall 4 (R 8) (mCons (mBin opDiv (mCall 2 (R 4) (mCons (mVar 0) (mCons (mC (.int 6)) mNil))) (mC (.int 2))) (mCons (mBin opIx (mVar 5) (mC (.int 1))) (mCons (mVar 4) (mCons (mVar 1) mNil))))) (gN 7))
    (b12_8 R RC))
def b12_6 (R : Nat → FnU) (RC : Nat → CloU) : SM :=
  (mSeq (mAsg (mCall 4 (R 8) (mCons (mCall 2 (R 4) (mCons (mVar 0) (mCons (mC (.int 6)) mNil))) (mCons (mBin opIx (mVar 5) (mC (.int 0))) (mCons (mVar 3) (mCons (mVar 1) mNil))))) (gN 6))
    (b12_7 R RC))
def b12_5 (R : Nat → FnU) (RC : Nat → CloU) : SM :=
  (mSeq (mAsg (mCall 2 (R 7) (mCons (mCall 2 (R 4) (mCons (mVar 0) (mCons (mC (.int 5)) mNil))) (mCons (mC (.int 4)) mNil))) (gN 5))
    (b12_6 R RC))
def b12_4 (R : Nat → FnU) (RC : Nat → CloU) : SM :=
  (mSeq (mIfS (mTru (mBin opEq (mBin opMod (mCall 2 (R 4) (mCons (mVar 0) (mCons (mC (.int 4)) mNil))) (mC (.int 3))) (mC (.int 0)))) (mAsg (mVar 3) (gN 4)) mSkip)
    (b12_5 R RC))
def b12_3 (R : Nat → FnU) (RC : Nat → CloU) : SM :=
  (mSeq (mAsg (mBin opMod (mCall 2 (R 4) (mCons (mVar 0) (mCons (mC (.int 3)) mNil))) (mVar 1)) (gN 4))
    (b12_4 R RC))
def b12_2 (R : Nat → FnU) (RC : Nat → CloU) : SM :=
  (mSeq (mAsg (mBin opMod (mCall 2 (R 4) (mCons (mVar 0) (mCons (mC (.int 2)) mNil))) (mVar 1)) (gN 3))
    (b12_3 R RC))
def b12_1 (R : Nat → FnU) (RC : Nat → CloU) : SM :=
  (mSeq (mAsg (mBin opAdd (mC (.int 1)) (mBin opMod (mCall 2 (R 4) (mCons (mVar 0) (mCons (mC (.int 1)) mNil))) (mVar 1))) (gN 2))
    (b12_2 R RC))
def b12 (R : Nat → FnU) (RC : Nat → CloU) : SM :=
  (mSeq (mAsg (mBin opAdd (mC (.int 1)) (mBin opMod (mCall 2 (R 4) (mCons (mVar 0) (mCons (mC (.int 0)) mNil))) (mBin opPow (mC (.int 10)) (mC (.int 18))))) (gN 1))
    (b12_1 R RC))
def c0 (R : Nat → FnU) (RC : Nat → CloU) : EM :=
  (mCall 3 (R 9) (mCons (mVar 3) (mCons (mTup (mCons (mVar 0) (mCons (mVar 1) (mCons (mVar 2) mNil)))) (mCons (mVar 4) mNil))))
def c1 (R : Nat → FnU) (RC : Nat → CloU) : EM :=
  (mCall 3 (R 9) (mCons (mVar 3) (mCons (mTup (mCons (mVar 0) (mCons (mVar 1) (mCons (mVar 2) mNil)))) (mCons (mVar 4) mNil))))
def run : Nat → (Nat → FnU) × (Nat → CloU)
  | 0 => (fun _ _ _ => .bad, fun _ _ _ _ => .bad)
  | n + 1 => (fun id => match id with
    | 0 => runDef 4 (b0 (run n).1 (run n).2)
    | 1 => runDef 3 (b1 (run n).1 (run n).2)
    | 2 => runDef 4 (b2 (run n).1 (run n).2)
    | 3 => runDef 7 (b3 (run n).1 (run n).2)
    | 4 => runDef 3 (b4 (run n).1 (run n).2)
    | 5 => runDef 1 (b5 (run n).1 (run n).2)
    | 6 => runDef 4 (b6 (run n).1 (run n).2)
    | 7 => runDef 9 (b7 (run n).1 (run n).2)
    | 8 => runDef 4 (b8 (run n).1 (run n).2)
    | 9 => runDef 3 (b9 (run n).1 (run n).2)
    | 10 => runDef 5 (b10 (run n).1 (run n).2)
    | 11 => runDef 11 (b11 (run n).1 (run n).2)
    | 12 => runDef 20 (b12 (run n).1 (run n).2)
    | _ => fun _ _ => .bad, fun id => match id with
    | 0 => runLam 5 (c0 (run n).1 (run n).2)
    | 1 => runLam 5 (c1 (run n).1 (run n).2)
    | _ => fun _ _ _ => .bad)
section
variable {P : Program} {w : World} {K : PySem.W.Frag} {mg : Str → Option Value} {T : List (Addr × Str)} {base : Heap} {f : Addr} {cdv : Value} {A0 : Around} {outer : List Env} {s : Shared} {H : Hp} {E : XK} {W : WX} {k : Nat} {R : Nat → FnU} {RC : Nat → CloU}
theorem sc0 : FnScope ["sign", "many", "one", "other"] ["sign", "many", "one", "other"] (defScope s0) := ⟨rfl, rfl, rfl, by decide +kernel, rfl, by decide +kernel, by decide +kernel⟩
theorem d0 (Z : Bi mg) (A : AllOk (ctOf K mg T tb) sig tb P w base k R RC) (o : XOk (ctOf K mg T tb) (cxOf (L2.CX P w) P w K mg base ["sign", "many", "one", "other"] "reckoned" (defScope s0) f cdv A0 outer s H E) W k) :
    PSs (cxOf (L2.CX P w) P w K mg base ["sign", "many", "one", "other"] "reckoned" (defScope s0) f cdv A0 outer s H E) (defBody s0) (sM (ctOf K mg T tb) W (b0 R RC)) :=
  (is_cons (is_if (it_eq o (iv 0) ie_str) (is_one (is_ret (ie_mod (ie_add o (iv 2) (iv 3)) (iv 1)))) is_nil)
    (is_cons (is_if (it_eq o (iv 0) ie_str) (is_one (is_ret (ie_mod (ie_sub (iv 2) (iv 3)) (iv 1)))) is_nil)
    (is_one (is_ret (ie_mod (ie_mul (iv 2) (iv 3)) (iv 1))))))
theorem sc1 : FnScope ["sign", "one", "other"] ["sign", "one", "other"] (defScope s1) := ⟨rfl, rfl, rfl, by decide +kernel, rfl, by decide +kernel, by decide +kernel⟩
theorem d1 (Z : Bi mg) (A : AllOk (ctOf K mg T tb) sig tb P w base k R RC) (o : XOk (ctOf K mg T tb) (cxOf (L2.CX P w) P w K mg base ["sign", "one", "other"] "tested" (defScope s1) f cdv A0 outer s H E) W k) :
    PSs (cxOf (L2.CX P w) P w K mg base ["sign", "one", "other"] "tested" (defScope s1) f cdv A0 outer s H E) (defBody s1) (sM (ctOf K mg T tb) W (b1 R RC)) :=
  (is_cons (is_if (it_eq o (iv 0) ie_str) (is_one (is_ret (ie_intC o rfl Z.z_int (ia_cons (ie_eq o (iv 1) (iv 2)) ia_nil)))) is_nil)
    (is_one (is_ret (ie_intC o rfl Z.z_int (ia_cons (ie_lt (iv 1) (iv 2)) ia_nil)))))
theorem sc2 : FnScope ["expression", "variables", "call", "within"] ["expression", "variables", "call"] (defScope s2) := ⟨rfl, rfl, rfl, by decide +kernel, rfl, by decide +kernel, by decide +kernel⟩
theorem d2 (Z : Bi mg) (A : AllOk (ctOf K mg T tb) sig tb P w base k R RC) (o : XOk (ctOf K mg T tb) (cxOf (L2.CX P w) P w K mg base ["expression", "variables", "call", "within"] "value_let" (defScope s2) f cdv A0 outer s H E) W k) :
    PSs (cxOf (L2.CX P w) P w K mg base ["expression", "variables", "call", "within"] "value_let" (defScope s2) f cdv A0 outer s H E) (defBody s2) (sM (ctOf K mg T tb) W (b2 R RC)) :=
  (is_cons (is_st 3 o (ie_dictC o rfl Z.z_dict (ia_cons (iv 1) ia_nil)))
    (is_cons (is_dput o (iv 3) (ie_sub_ o (iv 0) ie_int (fun _ _ => rfl)) (ie_call' o (A.fns 3 _ _ rfl) rfl (ia_cons (ie_sub_ o (iv 0) ie_int (fun _ _ => rfl)) (ia_cons (iv 1) (ia_cons (iv 2) ia_nil)))))
    (is_one (is_ret (ie_call' o (A.fns 3 _ _ rfl) rfl (ia_cons (ie_sub_ o (iv 0) ie_int (fun _ _ => rfl)) (ia_cons (iv 3) (ia_cons (iv 2) ia_nil))))))))
theorem sc3 : FnScope ["expression", "variables", "call", "word", "one", "values", "part"] ["expression", "variables", "call"] (defScope s3) := ⟨rfl, rfl, rfl, by decide +kernel, rfl, by decide +kernel, by decide +kernel⟩
theorem d3 (Z : Bi mg) (A : AllOk (ctOf K mg T tb) sig tb P w base k R RC) (o : XOk (ctOf K mg T tb) (cxOf (L2.CX P w) P w K mg base ["expression", "variables", "call", "word", "one", "values", "part"] "value_of" (defScope s3) f cdv A0 outer s H E) W k) :
    PSs (cxOf (L2.CX P w) P w K mg base ["expression", "variables", "call", "word", "one", "values", "part"] "value_of" (defScope s3) f cdv A0 outer s H E) (defBody s3) (sM (ctOf K mg T tb) W (b3 R RC)) :=
  (is_cons (is_st 3 o (ie_sub_ o (iv 0) ie_int (fun _ _ => rfl)))
    (is_cons (is_if (it_eq o (iv 3) ie_str) (is_one (is_ret (ie_sub_ o (iv 0) ie_int (fun _ _ => rfl)))) is_nil)
    (is_cons (is_if (it_eq o (iv 3) ie_str) (is_one (is_ret (ie_sub_ o (iv 1) (ie_sub_ o (iv 0) ie_int (fun _ _ => rfl)) (fun _ _ => rfl)))) is_nil)
    (is_cons (is_if (it_eq o (iv 3) ie_str) (is_cons (is_st 4 o (ie_call' o (A.fns 3 _ _ rfl) rfl (ia_cons (ie_sub_ o (iv 0) ie_int (fun _ _ => rfl)) (ia_cons (iv 1) (ia_cons (iv 2) ia_nil)))))
    (is_one (is_ret (ie_call' o (A.fns 0 _ _ rfl) rfl (ia_cons (ie_sub_ o (iv 0) ie_int (fun _ _ => rfl)) (ia_cons (ie_sub_ o (iv 0) ie_int (fun _ _ => rfl)) (ia_cons (iv 4) (ia_cons (ie_call' o (A.fns 3 _ _ rfl) rfl (ia_cons (ie_sub_ o (iv 0) ie_int (fun _ _ => rfl)) (ia_cons (iv 1) (ia_cons (iv 2) ia_nil)))) ia_nil)))))))) is_nil)
    (is_cons (is_if (it_eq o (iv 3) ie_str) (is_cons (is_st 4 o (ie_call' o (A.fns 3 _ _ rfl) rfl (ia_cons (ie_sub_ o (iv 0) ie_int (fun _ _ => rfl)) (ia_cons (iv 1) (ia_cons (iv 2) ia_nil)))))
    (is_one (is_ret (ie_call' o (A.fns 1 _ _ rfl) rfl (ia_cons (ie_sub_ o (iv 0) ie_int (fun _ _ => rfl)) (ia_cons (iv 4) (ia_cons (ie_call' o (A.fns 3 _ _ rfl) rfl (ia_cons (ie_sub_ o (iv 0) ie_int (fun _ _ => rfl)) (ia_cons (iv 1) (ia_cons (iv 2) ia_nil)))) ia_nil))))))) is_nil)
    (is_cons (is_if (it_eq o (iv 3) ie_str) (is_one (is_ret (ie_mod (ie_call' o (A.fns 3 _ _ rfl) rfl (ia_cons (ie_sub_ o (iv 0) ie_int (fun _ _ => rfl)) (ia_cons (iv 1) (ia_cons (iv 2) ia_nil)))) (ie_sub_ o (iv 0) ie_int (fun _ _ => rfl))))) is_nil)
    (is_cons (is_if (it_eq o (iv 3) ie_str) (is_cons (is_if (it_eq o (ie_call' o (A.fns 3 _ _ rfl) rfl (ia_cons (ie_sub_ o (iv 0) ie_int (fun _ _ => rfl)) (ia_cons (iv 1) (ia_cons (iv 2) ia_nil)))) ie_int) (is_one (is_ret (ie_call' o (A.fns 3 _ _ rfl) rfl (ia_cons (ie_sub_ o (iv 0) ie_int (fun _ _ => rfl)) (ia_cons (iv 1) (ia_cons (iv 2) ia_nil)))))) is_nil)
    (is_one (is_ret (ie_call' o (A.fns 3 _ _ rfl) rfl (ia_cons (ie_sub_ o (iv 0) ie_int (fun _ _ => rfl)) (ia_cons (iv 1) (ia_cons (iv 2) ia_nil))))))) is_nil)
    (is_cons (is_if (it_eq o (iv 3) ie_str) (is_one (is_ret (ie_call' o (A.fns 2 _ _ rfl) rfl (ia_cons (iv 0) (ia_cons (iv 1) (ia_cons (iv 2) ia_nil)))))) is_nil)
    (is_cons (is_if (it_eq o (iv 3) ie_str) (is_cons (is_st 4 o (ie_call' o (A.fns 3 _ _ rfl) rfl (ia_cons (ie_sub_ o (iv 0) ie_int (fun _ _ => rfl)) (ia_cons (iv 1) (ia_cons (iv 2) ia_nil)))))
    (is_one (is_ret (ie_tup (ia_cons (iv 4) (ia_cons (ie_call' o (A.fns 3 _ _ rfl) rfl (ia_cons (ie_sub_ o (iv 0) ie_int (fun _ _ => rfl)) (ia_cons (iv 1) (ia_cons (iv 2) ia_nil)))) ia_nil)))))) is_nil)
    (is_cons (is_if (it_eq o (iv 3) ie_str) (is_cons (is_setLc (i := 5) (own := [("part", 6)]) (js := [6]) o rfl rfl rfl (ii_any o (ie_sub_ o (iv 0) ie_int (fun _ _ => rfl))) (blkOk_by (by kernel_rfl)) (fun _ _ _ _ _ => (ig_n 6 (XOk.blk o))) (fun _ _ _ _ _ => its_nil) (fun _ _ _ _ _ => (ie_call' (XOk.blk o) (A.fns 3 _ _ rfl) rfl (ia_cons (iv 6) (ia_cons (iv 1) (ia_cons (iv 2) ia_nil))))) (by decide))
    (is_one (is_ret (ie_cl 2 o A (ia_cons (ie_sub_ o (iv 0) ie_int (fun _ _ => rfl)) (ia_cons (ie_sub_ o (iv 0) ie_int (fun _ _ => rfl)) (ia_cons (iv 5) ia_nil))))))) is_nil)
    (is_one (is_ret (ie_sub_ o (ie_call' o (A.fns 3 _ _ rfl) rfl (ia_cons (ie_sub_ o (iv 0) ie_int (fun _ _ => rfl)) (ia_cons (iv 1) (ia_cons (iv 2) ia_nil)))) (ie_intC o rfl Z.z_int (ia_cons (ie_eq o (iv 3) ie_str) ia_nil)) (fun _ _ => rfl))))))))))))))
theorem sc4 : FnScope ["_law_script", "_law_k", "_law_number"] ["_law_script", "_law_k"] (defScope s4) := ⟨rfl, rfl, rfl, by decide +kernel, rfl, by decide +kernel, by decide +kernel⟩
theorem d4 (Z : Bi mg) (A : AllOk (ctOf K mg T tb) sig tb P w base k R RC) (o : XOk (ctOf K mg T tb) (cxOf (L2.CX P w) P w K mg base ["_law_script", "_law_k", "_law_number"] "_law_cell_at" (defScope s4) f cdv A0 outer s H E) W k) :
    PSs (cxOf (L2.CX P w) P w K mg base ["_law_script", "_law_k", "_law_number"] "_law_cell_at" (defScope s4) f cdv A0 outer s H E) (defBody s4) (sM (ctOf K mg T tb) W (b4 R RC)) :=
  (is_cons (is_if (it_lt (iv 1) (ie_len o rfl Z.z_len (ia_cons (iv 0) ia_nil))) (is_one (is_ret (ie_sub_ o (iv 0) (iv 1) (fun _ _ => rfl)))) is_nil)
    (is_cons (is_st 2 o (ie_add o (ie_mul ie_int (iv 1)) ie_int))
    (is_cons (is_if (it_gt (ie_len o rfl Z.z_len (ia_cons (iv 0) ia_nil)) ie_int) (is_one (is_st 2 o (ie_add o (ie_mul (ie_mod (ie_sub_ o (iv 0) (ie_mod (iv 1) (ie_len o rfl Z.z_len (ia_cons (iv 0) ia_nil))) (fun _ _ => rfl)) ie_int) ie_int) (ie_mul (ie_mul ie_int (iv 1)) (iv 1))))) is_nil)
    (is_one (is_ret (ie_mod (iv 2) ie_int))))))
theorem sc5 : FnScope ["_law_found"] ["_law_found"] (defScope s5) := ⟨rfl, rfl, rfl, by decide +kernel, rfl, by decide +kernel, by decide +kernel⟩
theorem d5 (Z : Bi mg) (A : AllOk (ctOf K mg T tb) sig tb P w base k R RC) (o : XOk (ctOf K mg T tb) (cxOf (L2.CX P w) P w K mg base ["_law_found"] "_law_whole" (defScope s5) f cdv A0 outer s H E) W k) :
    PSs (cxOf (L2.CX P w) P w K mg base ["_law_found"] "_law_whole" (defScope s5) f cdv A0 outer s H E) (defBody s5) (sM (ctOf K mg T tb) W (b5 R RC)) :=
  (is_one (is_ret (ie_andV o (ie_isa o rfl Z.z_isinstance (ia_cons (iv 0) (ia_cons (ie_ty (n := "int") rfl Z.z_int rfl) ia_nil))) (ie_and1 (ie_notV o (ie_isa o rfl Z.z_isinstance (ia_cons (iv 0) (ia_cons (ie_ty (n := "bool") rfl Z.z_bool rfl) ia_nil))))))))
theorem sc6 : FnScope ["_law_found", "_law_due", "_law_one", "_law_other"] ["_law_found", "_law_due"] (defScope s6) := ⟨rfl, rfl, rfl, by decide +kernel, rfl, by decide +kernel, by decide +kernel⟩
theorem d6 (Z : Bi mg) (A : AllOk (ctOf K mg T tb) sig tb P w base k R RC) (o : XOk (ctOf K mg T tb) (cxOf (L2.CX P w) P w K mg base ["_law_found", "_law_due", "_law_one", "_law_other"] "_law_alike" (defScope s6) f cdv A0 outer s H E) W k) :
    PSs (cxOf (L2.CX P w) P w K mg base ["_law_found", "_law_due", "_law_one", "_law_other"] "_law_alike" (defScope s6) f cdv A0 outer s H E) (defBody s6) (sM (ctOf K mg T tb) W (b6 R RC)) :=
  (is_cons (is_if (it_tru o (ie_isa o rfl Z.z_isinstance (ia_cons (iv 1) (ia_cons (ie_ty (n := "tuple") rfl Z.z_tuple rfl) ia_nil)))) (is_cons (is_if (PW.pt (iw_or (it_not (it_tru o (ie_isa o rfl Z.z_isinstance (ia_cons (iv 0) (ia_cons (ie_ty (n := "tuple") rfl Z.z_tuple rfl) ia_nil))))) (pw_or1 (it_ne o (ie_len o rfl Z.z_len (ia_cons (iv 0) ia_nil)) (ie_len o rfl Z.z_len (ia_cons (iv 1) ia_nil)))))) (is_one (is_ret ie_bl)) is_nil)
    (is_one (is_ret (ie_all o rfl Z.z_all (ia_cons (ie_lc (own := [("_law_one", 2), ("_law_other", 3)]) (js := [2, 3]) o (ii_zip o rfl Z.z_zip (ia_cons (iv 0) (ia_cons (iv 1) ia_nil))) (blkOk_by (by kernel_rfl)) (fun _ _ _ _ _ => (ig_seq (XOk.blk o) (igs_cons (ig_n 2 (XOk.blk o)) (igs_cons (ig_n 3 (XOk.blk o)) igs_nil)))) (fun _ _ _ _ _ => its_nil) (fun _ _ _ _ _ => (ie_call' (XOk.blk o) (A.fns 6 _ _ rfl) rfl (ia_cons (iv 2) (ia_cons (iv 3) ia_nil)))) (by decide)) ia_nil))))) is_nil)
    (is_cons (is_if (it_tru o (ie_isa o rfl Z.z_isinstance (ia_cons (iv 1) (ia_cons (ie_ty (n := "str") rfl Z.z_str rfl) ia_nil)))) (is_one (is_ret (ie_andV o (ie_isa o rfl Z.z_isinstance (ia_cons (iv 0) (ia_cons (ie_ty (n := "str") rfl Z.z_str rfl) ia_nil))) (ie_and1 (ie_eq o (iv 0) (iv 1)))))) is_nil)
    (is_one (is_ret (ie_andV o (ie_call' o (A.fns 5 _ _ rfl) rfl (ia_cons (iv 0) ia_nil)) (ie_and1 (ie_eq o (iv 0) (iv 1))))))))
theorem sc7 : FnScope ["_law_cell", "_law_many", "_law_letters", "_law_size", "_law_k", "_law_at", "_law_words_here", "_law_signs", "_law_j"] ["_law_cell", "_law_many"] (defScope s7) := ⟨rfl, rfl, rfl, by decide +kernel, rfl, by decide +kernel, by decide +kernel⟩
theorem d7 (Z : Bi mg) (A : AllOk (ctOf K mg T tb) sig tb P w base k R RC) (o : XOk (ctOf K mg T tb) (cxOf (L2.CX P w) P w K mg base ["_law_cell", "_law_many", "_law_letters", "_law_size", "_law_k", "_law_at", "_law_words_here", "_law_signs", "_law_j"] "_law_words" (defScope s7) f cdv A0 outer s H E) W k) :
    PSs (cxOf (L2.CX P w) P w K mg base ["_law_cell", "_law_many", "_law_letters", "_law_size", "_law_k", "_law_at", "_law_words_here", "_law_signs", "_law_j"] "_law_words" (defScope s7) f cdv A0 outer s H E) (defBody s7) (sM (ctOf K mg T tb) W (b7 R RC)) :=
  (is_cons (is_st 2 o ie_str)
    (is_cons (is_st 3 o (ie_mod (iv 0) ie_int))
    (is_cons (is_if (it_eq o (iv 3) ie_int) (is_one (is_ret (ie_lc (own := [("_law_k", 4)]) (js := [4]) o (ii_range1 rfl Z.z_range (ia_cons (iv 1) ia_nil)) (blkOk_by (by kernel_rfl)) (fun _ _ _ _ _ => (ig_n 4 (XOk.blk o))) (fun _ _ _ _ _ => its_nil) (fun _ _ _ _ _ => (ie_sub_ (XOk.blk o) (iv 2) (ie_mod (ie_add (XOk.blk o) (ie_div (iv 0) ie_int) (iv 4)) ie_int) (fun _ _ => rfl))) (by decide)))) is_nil)
    (is_cons (is_st 5 o (ie_mod (ie_div (iv 0) ie_int) (iv 3)))
    (is_cons (is_st 6 o (ie_lst ia_nil))
    (is_cons (is_for (js := [4]) o (passes_of rfl) (ii_range1 rfl Z.z_range (ia_cons (iv 1) ia_nil)) (ig_n 4 o) (is_cons (is_setLc (i := 7) (own := [("_law_j", 8)]) (js := [8]) o rfl rfl rfl (ii_range1 rfl Z.z_range (ia_cons (iv 3) ia_nil)) (blkOk_by (by kernel_rfl)) (fun _ _ _ _ _ => (ig_n 8 (XOk.blk o))) (fun _ _ _ _ _ => its_nil) (fun _ _ _ _ _ => (ie_sub_ (XOk.blk o) (iv 2) (ie_mod (ie_add (XOk.blk o) (ie_add (XOk.blk o) (ie_div (iv 0) ie_int) (ie_mul (ie_mul ie_int (iv 8)) (iv 8))) (ie_mul (iv 4) (ie_intC (XOk.blk o) rfl Z.z_int (ia_cons (ie_eq (XOk.blk o) (iv 8) (iv 5)) ia_nil)))) ie_int) (fun _ _ => rfl))) (by decide))
    (is_one (is_expr (ie_append o (iv 6) (ia_cons (ie_add o (ie_sub_ o ie_str (ie_mod (ie_div (iv 0) ie_int) ie_int) (fun _ _ => rfl)) (ie_join o ie_str (ia_cons (iv 7) ia_nil))) ia_nil))))))
    (is_one (is_ret (iv 6)))))))))
theorem sc8 : FnScope ["_law_cell", "_law_name", "_law_value", "_law_many"] ["_law_cell", "_law_name", "_law_value", "_law_many"] (defScope s8) := ⟨rfl, rfl, rfl, by decide +kernel, rfl, by decide +kernel, by decide +kernel⟩
theorem d8 (Z : Bi mg) (A : AllOk (ctOf K mg T tb) sig tb P w base k R RC) (o : XOk (ctOf K mg T tb) (cxOf (L2.CX P w) P w K mg base ["_law_cell", "_law_name", "_law_value", "_law_many"] "_law_side" (defScope s8) f cdv A0 outer s H E) W k) :
    PSs (cxOf (L2.CX P w) P w K mg base ["_law_cell", "_law_name", "_law_value", "_law_many"] "_law_side" (defScope s8) f cdv A0 outer s H E) (defBody s8) (sM (ctOf K mg T tb) W (b8 R RC)) :=
  (is_cons (is_if (it_eq o (ie_mod (iv 0) ie_int) ie_int) (is_one (is_ret (ie_tup (ia_cons ie_str (ia_cons (iv 2) (ia_cons (iv 3) ia_nil)))))) is_nil)
    (is_one (is_ret (ie_tup (ia_cons ie_str (ia_cons (iv 1) ia_nil))))))
theorem sc9 : FnScope ["_law_heard", "_law_call", "_law_reply"] ["_law_heard", "_law_call", "_law_reply"] (defScope s9) := ⟨rfl, rfl, rfl, by decide +kernel, rfl, by decide +kernel, by decide +kernel⟩
theorem d9 (Z : Bi mg) (A : AllOk (ctOf K mg T tb) sig tb P w base k R RC) (o : XOk (ctOf K mg T tb) (cxOf (L2.CX P w) P w K mg base ["_law_heard", "_law_call", "_law_reply"] "_law_noted" (defScope s9) f cdv A0 outer s H E) W k) :
    PSs (cxOf (L2.CX P w) P w K mg base ["_law_heard", "_law_call", "_law_reply"] "_law_noted" (defScope s9) f cdv A0 outer s H E) (defBody s9) (sM (ctOf K mg T tb) W (b9 R RC)) :=
  (is_cons (is_expr (ie_append o (iv 0) (ia_cons (iv 1) ia_nil)))
    (is_one (is_ret (iv 2))))
theorem sc10 : FnScope ["_law_one", "_law_other", "_law_a", "_law_b", "_law_many"] ["_law_one", "_law_other", "_law_a", "_law_b", "_law_many"] (defScope s10) := ⟨rfl, rfl, rfl, by decide +kernel, rfl, by decide +kernel, by decide +kernel⟩
theorem d10 (Z : Bi mg) (A : AllOk (ctOf K mg T tb) sig tb P w base k R RC) (o : XOk (ctOf K mg T tb) (cxOf (L2.CX P w) P w K mg base ["_law_one", "_law_other", "_law_a", "_law_b", "_law_many"] "_law_reckoned" (defScope s10) f cdv A0 outer s H E) W k) :
    PSs (cxOf (L2.CX P w) P w K mg base ["_law_one", "_law_other", "_law_a", "_law_b", "_law_many"] "_law_reckoned" (defScope s10) f cdv A0 outer s H E) (defBody s10) (sM (ctOf K mg T tb) W (b10 R RC)) :=
  (is_one (is_ret (ie_lst (ia_cons (ie_tup (ia_cons (ie_tup (ia_cons ie_str (ia_cons ie_str (ia_cons (iv 4) (ia_cons (iv 0) (ia_cons (iv 1) ia_nil)))))) (ia_cons (ie_mod (ie_add o (iv 2) (iv 3)) (iv 4)) ia_nil))) (ia_cons (ie_tup (ia_cons (ie_tup (ia_cons ie_str (ia_cons ie_str (ia_cons (iv 4) (ia_cons (iv 0) (ia_cons (iv 1) ia_nil)))))) (ia_cons (ie_mod (ie_sub (iv 2) (iv 3)) (iv 4)) ia_nil))) (ia_cons (ie_tup (ia_cons (ie_tup (ia_cons ie_str (ia_cons ie_str (ia_cons (iv 4) (ia_cons (iv 0) (ia_cons (iv 1) ia_nil)))))) (ia_cons (ie_mod (ie_mul (iv 2) (iv 3)) (iv 4)) ia_nil))) (ia_cons (ie_tup (ia_cons (ie_tup (ia_cons ie_str (ia_cons ie_str (ia_cons (iv 0) (ia_cons (iv 1) ia_nil))))) (ia_cons (ie_intC o rfl Z.z_int (ia_cons (ie_eq o (iv 2) (iv 3)) ia_nil)) ia_nil))) (ia_cons (ie_tup (ia_cons (ie_tup (ia_cons ie_str (ia_cons ie_str (ia_cons (iv 0) (ia_cons (iv 1) ia_nil))))) (ia_cons (ie_intC o rfl Z.z_int (ia_cons (ie_lt (iv 2) (iv 3)) ia_nil)) ia_nil))) ia_nil))))))))
theorem sc11 : FnScope ["_law_words_here", "_law_one", "_law_other", "_law_a", "_law_b", "_law_less", "_law_x", "_law_y", "_law_z", "_law_w", "_law_both"] ["_law_words_here", "_law_one", "_law_other", "_law_a", "_law_b", "_law_less"] (defScope s11) := ⟨rfl, rfl, rfl, by decide +kernel, rfl, by decide +kernel, by decide +kernel⟩
theorem d11 (Z : Bi mg) (A : AllOk (ctOf K mg T tb) sig tb P w base k R RC) (o : XOk (ctOf K mg T tb) (cxOf (L2.CX P w) P w K mg base ["_law_words_here", "_law_one", "_law_other", "_law_a", "_law_b", "_law_less", "_law_x", "_law_y", "_law_z", "_law_w", "_law_both"] "_law_cases" (defScope s11) f cdv A0 outer s H E) W k) :
    PSs (cxOf (L2.CX P w) P w K mg base ["_law_words_here", "_law_one", "_law_other", "_law_a", "_law_b", "_law_less", "_law_x", "_law_y", "_law_z", "_law_w", "_law_both"] "_law_cases" (defScope s11) f cdv A0 outer s H E) (defBody s11) (sM (ctOf K mg T tb) W (b11 R RC)) :=
  (is_cons (is_asg (js := [6, 7, 8, 9]) (iv 0) (ig_seq o (igs_cons (ig_n 6 o) (igs_cons (ig_n 7 o) (igs_cons (ig_n 8 o) (igs_cons (ig_n 9 o) igs_nil))))))
    (is_cons (is_st 10 o (ie_tup (ia_cons ie_str (ia_cons (iv 1) (ia_cons (iv 2) ia_nil)))))
    (is_one (is_ret (ie_lst (ia_cons (ie_tup (ia_cons (ie_tup (ia_cons ie_str (ia_cons (iv 3) (ia_cons (ie_add o (iv 3) ie_int) ia_nil)))) (ia_cons (iv 3) ia_nil))) (ia_cons (ie_tup (ia_cons (ie_tup (ia_cons ie_str (ia_cons (iv 7) ia_nil))) (ia_cons (iv 4) ia_nil))) (ia_cons (ie_tup (ia_cons (ie_tup (ia_cons ie_str (ia_cons (iv 8) ia_nil))) (ia_cons (ie_tup (ia_cons (iv 3) (ia_cons (iv 4) ia_nil))) ia_nil))) (ia_cons (ie_tup (ia_cons (ie_tup (ia_cons ie_str (ia_cons (iv 5) (ia_cons (iv 1) ia_nil)))) (ia_cons (ie_mod (iv 3) (iv 5)) ia_nil))) (ia_cons (ie_tup (ia_cons (ie_tup (ia_cons ie_str (ia_cons (ie_tup (ia_cons ie_str (ia_cons ie_int (ia_cons ie_int ia_nil)))) (ia_cons (iv 1) (ia_cons (iv 2) ia_nil))))) (ia_cons (iv 3) ia_nil))) (ia_cons (ie_tup (ia_cons (ie_tup (ia_cons ie_str (ia_cons (ie_tup (ia_cons ie_str (ia_cons ie_int (ia_cons ie_int ia_nil)))) (ia_cons (iv 1) (ia_cons (iv 2) ia_nil))))) (ia_cons (iv 4) ia_nil))) (ia_cons (ie_tup (ia_cons (ie_tup (ia_cons ie_str (ia_cons (iv 7) (ia_cons (iv 1) (ia_cons (ie_tup (ia_cons ie_str (ia_cons (ie_tup (ia_cons ie_str (ia_cons (iv 7) ia_nil))) (ia_cons (ie_tup (ia_cons ie_str (ia_cons (iv 6) ia_nil))) ia_nil)))) ia_nil))))) (ia_cons (ie_tup (ia_cons (iv 3) (ia_cons (iv 3) ia_nil))) ia_nil))) (ia_cons (ie_tup (ia_cons (ie_tup (ia_cons ie_str (ia_cons (iv 9) (ia_cons (iv 2) (ia_cons (ie_tup (ia_cons ie_str (ia_cons (ie_tup (ia_cons ie_str (ia_cons (iv 9) ia_nil))) (ia_cons (ie_tup (ia_cons ie_str (ia_cons (iv 8) ia_nil))) ia_nil)))) ia_nil))))) (ia_cons (ie_tup (ia_cons (iv 4) (ia_cons (ie_tup (ia_cons (iv 3) (ia_cons (iv 4) ia_nil))) ia_nil))) ia_nil))) (ia_cons (ie_tup (ia_cons (iv 10) (ia_cons (ie_tup (ia_cons (iv 3) (ia_cons (iv 4) ia_nil))) ia_nil))) (ia_cons (ie_tup (ia_cons (ie_tup (ia_cons ie_str (ia_cons (iv 10) ia_nil))) (ia_cons (iv 3) ia_nil))) (ia_cons (ie_tup (ia_cons (ie_tup (ia_cons ie_str (ia_cons (iv 10) ia_nil))) (ia_cons (iv 4) ia_nil))) (ia_cons (ie_tup (ia_cons (ie_tup (ia_cons ie_str (ia_cons (ie_tup (ia_cons ie_str (ia_cons (iv 8) ia_nil))) ia_nil))) (ia_cons (iv 4) ia_nil))) ia_nil)))))))))))))))))
theorem sc12 : FnScope ["_law_script", "_law_many", "_law_less", "_law_a", "_law_b", "_law_words_here", "_law_one", "_law_other", "_law_held", "_law_handed", "_law_heard", "_law_reply", "_law_cases_here", "_law_expression", "_law_due", "_law_found", "_law_count", "_law_part", "_law_word", "_law_call"] ["_law_script"] (defScope s12) := ⟨rfl, rfl, rfl, by decide +kernel, rfl, by decide +kernel, by decide +kernel⟩
theorem d12 (Z : Bi mg) (A : AllOk (ctOf K mg T tb) sig tb P w base k R RC) (o : XOk (ctOf K mg T tb) (cxOf (L2.CX P w) P w K mg base ["_law_script", "_law_many", "_law_less", "_law_a", "_law_b", "_law_words_here", "_law_one", "_law_other", "_law_held", "_law_handed", "_law_heard", "_law_reply", "_law_cases_here", "_law_expression", "_law_due", "_law_found", "_law_count", "_law_part", "_law_word", "_law_call"] "law" (defScope s12) f cdv A0 outer s H E) W k) (M : Mk1 (cxOf (L2.CX P w) P w K mg base ["_law_script", "_law_many", "_law_less", "_law_a", "_law_b", "_law_words_here", "_law_one", "_law_other", "_law_held", "_law_handed", "_law_heard", "_law_reply", "_law_cases_here", "_law_expression", "_law_due", "_law_found", "_law_count", "_law_part", "_law_word", "_law_call"] "law" (defScope s12) f cdv A0 outer s H E) T) :
    PSs (cxOf (L2.CX P w) P w K mg base ["_law_script", "_law_many", "_law_less", "_law_a", "_law_b", "_law_words_here", "_law_one", "_law_other", "_law_held", "_law_handed", "_law_heard", "_law_reply", "_law_cases_here", "_law_expression", "_law_due", "_law_found", "_law_count", "_law_part", "_law_word", "_law_call"] "law" (defScope s12) f cdv A0 outer s H E) (defBody s12) (sM (ctOf K mg T tb) W (b12 R RC)) :=
  (is_cons (is_st 1 o (ie_add o ie_int (ie_mod (ie_call' o (A.fns 4 _ _ rfl) rfl (ia_cons (iv 0) (ia_cons ie_int ia_nil))) (ie_pow ie_int ie_int))))
    (is_cons (is_st 2 o (ie_add o ie_int (ie_mod (ie_call' o (A.fns 4 _ _ rfl) rfl (ia_cons (iv 0) (ia_cons ie_int ia_nil))) (iv 1))))
    (is_cons (is_st 3 o (ie_mod (ie_call' o (A.fns 4 _ _ rfl) rfl (ia_cons (iv 0) (ia_cons ie_int ia_nil))) (iv 1)))
    (is_cons (is_st 4 o (ie_mod (ie_call' o (A.fns 4 _ _ rfl) rfl (ia_cons (iv 0) (ia_cons ie_int ia_nil))) (iv 1)))
    (is_cons (is_if (it_eq o (ie_mod (ie_call' o (A.fns 4 _ _ rfl) rfl (ia_cons (iv 0) (ia_cons ie_int ia_nil))) ie_int) ie_int) (is_one (is_st 4 o (iv 3))) is_nil)
    (is_cons (is_st 5 o (ie_call' o (A.fns 7 _ _ rfl) rfl (ia_cons (ie_call' o (A.fns 4 _ _ rfl) rfl (ia_cons (iv 0) (ia_cons ie_int ia_nil))) (ia_cons ie_int ia_nil))))
    (is_cons (is_st 6 o (ie_call' o (A.fns 8 _ _ rfl) rfl (ia_cons (ie_call' o (A.fns 4 _ _ rfl) rfl (ia_cons (iv 0) (ia_cons ie_int ia_nil))) (ia_cons (ie_sub_ o (iv 5) ie_int (fun _ _ => rfl)) (ia_cons (iv 3) (ia_cons (iv 1) ia_nil))))))
    (is_cons (is_st 7 o (ie_call' o (A.fns 8 _ _ rfl) rfl (ia_cons (ie_div (ie_call' o (A.fns 4 _ _ rfl) rfl (ia_cons (iv 0) (ia_cons ie_int ia_nil))) ie_int) (ia_cons (ie_sub_ o (iv 5) ie_int (fun _ _ => rfl)) (ia_cons (iv 4) (ia_cons (iv 1) ia_nil))))))
    (is_cons (is_st 8 o (ie_disp (ps := [((mBin opIx (mVar 5) (mC (.int 0))), (mVar 3)), ((mBin opIx (mVar 5) (mC (.int 1))), (mVar 4)), ((mBin opIx (mVar 5) (mC (.int 2))), (mTup (mCons (mVar 3) (mCons (mVar 4) mNil))))]) (pps_cons (ie_sub_ o (iv 5) ie_int (fun _ _ => rfl)) (iv 3) (pps_cons (ie_sub_ o (iv 5) ie_int (fun _ _ => rfl)) (iv 4) (pps_cons (ie_sub_ o (iv 5) ie_int (fun _ _ => rfl)) (ie_tup (ia_cons (iv 3) (ia_cons (iv 4) ia_nil))) pps_nil)))))
    (is_cons (is_st 9 o (ie_dictC o rfl Z.z_dict (ia_cons (iv 8) ia_nil)))
    (is_cons (is_st 10 o (ie_lst ia_nil))
    (is_cons (is_st 11 o (ie_sub_ o (ie_lst (ia_cons (iv 4) (ia_cons (ie_tup (ia_cons (iv 4) (ia_cons (iv 3) ia_nil))) ia_nil))) (ie_mod (ie_call' o (A.fns 4 _ _ rfl) rfl (ia_cons (iv 0) (ia_cons ie_int ia_nil))) ie_int) (fun _ _ => rfl)))
    (is_cons (is_st 12 o (ie_add o (ie_call' o (A.fns 10 _ _ rfl) rfl (ia_cons (iv 6) (ia_cons (iv 7) (ia_cons (iv 3) (ia_cons (iv 4) (ia_cons (iv 1) ia_nil)))))) (ie_call' o (A.fns 11 _ _ rfl) rfl (ia_cons (iv 5) (ia_cons (iv 6) (ia_cons (iv 7) (ia_cons (iv 3) (ia_cons (iv 4) (ia_cons (iv 2) ia_nil)))))))))
    (is_cons (is_for (js := [13, 14]) o (passes_of rfl) (ii_any o (iv 12)) (ig_seq o (igs_cons (ig_n 13 o) (igs_cons (ig_n 14 o) igs_nil))) (is_cons (is_st 15 o (ie_callLam' (li := li0) (id := 0) (js := [10, 11]) o (A.fns 3 _ _ rfl) rfl rfl (iv 13) (iv 9) M (by kernel_rfl) (by kernel_rfl) rfl))
    (is_one (is_if (it_not (it_tru o (ie_call' o (A.fns 6 _ _ rfl) rfl (ia_cons (iv 15) (ia_cons (iv 14) ia_nil))))) (is_one (is_ret ie_bl)) is_nil))))
    (is_cons (is_if (PW.pt (iw_or (it_ne o (iv 10) (ie_lst ia_nil)) (pw_or1 (it_ne o (iv 9) (iv 8))))) (is_one (is_ret ie_bl)) is_nil)
    (is_cons (is_st 16 o (ie_mod (ie_div (ie_call' o (A.fns 4 _ _ rfl) rfl (ia_cons (iv 0) (ia_cons ie_int ia_nil))) ie_int) ie_int))
    (is_cons (is_asg (js := [17, 18]) (ie_call' o (A.fns 7 _ _ rfl) rfl (ia_cons (ie_call' o (A.fns 4 _ _ rfl) rfl (ia_cons (iv 0) (ia_cons ie_int ia_nil))) (ia_cons ie_int ia_nil))) (ig_seq o (igs_cons (ig_n 17 o) (igs_cons (ig_n 18 o) igs_nil))))
    (is_cons (is_if (it_eq o (ie_mod (ie_call' o (A.fns 4 _ _ rfl) rfl (ia_cons (iv 0) (ia_cons ie_int ia_nil))) ie_int) ie_int) (is_one (is_st 17 o ie_str)) is_nil)
    (is_cons (is_st 19 o (ie_tup (ia_cons ie_str (ia_cons (iv 17) (ia_cons (iv 18) (ia_cons (ie_tupleC o rfl Z.z_tuple (ia_cons (ie_slice o (ie_lst (ia_cons (iv 6) (ia_cons (iv 7) (ia_cons (iv 6) (ia_cons (iv 7) ia_nil))))) io_none (io_some (iv 16))) ia_nil)) ia_nil))))))
    (is_cons (is_st 15 o (ie_callLam' (li := li1) (id := 1) (js := [10, 11]) o (A.fns 3 _ _ rfl) rfl rfl (iv 19) (iv 9) M (by kernel_rfl) (by kernel_rfl) rfl))
    (is_cons (is_if (PW.pt (iw_or (it_not (it_tru o (ie_call' o (A.fns 6 _ _ rfl) rfl (ia_cons (iv 15) (ia_cons (iv 11) ia_nil))))) (iw_or (it_ne o (ie_len o rfl Z.z_len (ia_cons (iv 10) ia_nil)) ie_int) (pw_or1 (it_not (it_tru o (ie_isa o rfl Z.z_isinstance (ia_cons (ie_sub_ o (ie_sub_ o (iv 10) ie_int (fun _ _ => rfl)) ie_int (fun _ _ => rfl)) (ia_cons (ie_ty (n := "list") rfl Z.z_list rfl) ia_nil))))))))) (is_one (is_ret ie_bl)) is_nil)
    (is_one (is_ret (ie_andV o (ie_eq o (iv 10) (ie_lst (ia_cons (ie_tup (ia_cons (iv 17) (ia_cons (iv 18) (ia_cons (ie_slice o (ie_lst (ia_cons (iv 3) (ia_cons (iv 4) (ia_cons (iv 3) (ia_cons (iv 4) ia_nil))))) io_none (io_some (iv 16))) ia_nil)))) ia_nil))) (ie_and1 (ie_eq o (iv 9) (iv 8)))))))))))))))))))))))))))
theorem ns0 : NScope ["_law_q", "_law_f", "_law_values", "_law_heard", "_law_reply"] li0.ps li0.fr li0.scope := nscope_by (by decide +kernel)
theorem e0 {F : NF} (hF : F.scope = li0.scope) (Z : Bi mg) (A : AllOk (ctOf K mg T tb) sig tb P w base k R RC) (o : XOk (ctOf K mg T tb) (ncx (L2.CX P w) P w K mg base ["_law_q", "_law_f", "_law_values", "_law_heard", "_law_reply"] F f A0 outer s H E) W k) :
    PE (ncx (L2.CX P w) P w K mg base ["_law_q", "_law_f", "_law_values", "_law_heard", "_law_reply"] F f A0 outer s H E) li0.body (tM (ctOf K mg T tb) W (c0 R RC)) := by
  obtain ⟨x1, x2, x3, x4, x5, x6, x7⟩ := F
  cases hF
  exact (ie_call' o (A.fns 9 _ _ rfl) rfl (ia_cons (iv 3) (ia_cons (ie_tup (ia_cons (iv 0) (ia_cons (iv 1) (ia_cons (iv 2) ia_nil)))) (ia_cons (iv 4) ia_nil))))
theorem ns1 : NScope ["_law_q", "_law_f", "_law_values", "_law_heard", "_law_reply"] li1.ps li1.fr li1.scope := nscope_by (by decide +kernel)
theorem e1 {F : NF} (hF : F.scope = li1.scope) (Z : Bi mg) (A : AllOk (ctOf K mg T tb) sig tb P w base k R RC) (o : XOk (ctOf K mg T tb) (ncx (L2.CX P w) P w K mg base ["_law_q", "_law_f", "_law_values", "_law_heard", "_law_reply"] F f A0 outer s H E) W k) :
    PE (ncx (L2.CX P w) P w K mg base ["_law_q", "_law_f", "_law_values", "_law_heard", "_law_reply"] F f A0 outer s H E) li1.body (tM (ctOf K mg T tb) W (c1 R RC)) := by
  obtain ⟨x1, x2, x3, x4, x5, x6, x7⟩ := F
  cases hF
  exact (ie_call' o (A.fns 9 _ _ rfl) rfl (ia_cons (iv 3) (ia_cons (ie_tup (ia_cons (iv 0) (ia_cons (iv 1) (ia_cons (iv 2) ia_nil)))) (ia_cons (iv 4) ia_nil))))
end
structure Facts (K : PySem.W.Frag) (mg : Str → Option Value) (T : List (Addr × Str)) (cs : List (Addr × Addr)) : Prop where
  z : Bi mg
  f0 : ∃ f fd c, mg "reckoned" = some (.ref f) ∧ FunC K "reckoned" "reckoned" s0 f fd c ∧ PySem.W.keepIn K (.ref f) = true ∧ Binds K fd ["sign", "many", "one", "other"] []
  f1 : ∃ f fd c, mg "tested" = some (.ref f) ∧ FunC K "tested" "tested" s1 f fd c ∧ PySem.W.keepIn K (.ref f) = true ∧ Binds K fd ["sign", "one", "other"] []
  f2 : ∃ f fd c, mg "value_let" = some (.ref f) ∧ FunC K "value_let" "value_let" s2 f fd c ∧ PySem.W.keepIn K (.ref f) = true ∧ Binds K fd ["expression", "variables", "call"] []
  f3 : ∃ f fd c, mg "value_of" = some (.ref f) ∧ FunC K "value_of" "value_of" s3 f fd c ∧ PySem.W.keepIn K (.ref f) = true ∧ Binds K fd ["expression", "variables", "call"] []
  f4 : ∃ f fd c, mg "_law_cell_at" = some (.ref f) ∧ FunC K "_law_cell_at" "_law_cell_at" s4 f fd c ∧ PySem.W.keepIn K (.ref f) = true ∧ Binds K fd ["_law_script", "_law_k"] []
  f5 : ∃ f fd c, mg "_law_whole" = some (.ref f) ∧ FunC K "_law_whole" "_law_whole" s5 f fd c ∧ PySem.W.keepIn K (.ref f) = true ∧ Binds K fd ["_law_found"] []
  f6 : ∃ f fd c, mg "_law_alike" = some (.ref f) ∧ FunC K "_law_alike" "_law_alike" s6 f fd c ∧ PySem.W.keepIn K (.ref f) = true ∧ Binds K fd ["_law_found", "_law_due"] []
  f7 : ∃ f fd c, mg "_law_words" = some (.ref f) ∧ FunC K "_law_words" "_law_words" s7 f fd c ∧ PySem.W.keepIn K (.ref f) = true ∧ Binds K fd ["_law_cell", "_law_many"] []
  f8 : ∃ f fd c, mg "_law_side" = some (.ref f) ∧ FunC K "_law_side" "_law_side" s8 f fd c ∧ PySem.W.keepIn K (.ref f) = true ∧ Binds K fd ["_law_cell", "_law_name", "_law_value", "_law_many"] []
  f9 : ∃ f fd c, mg "_law_noted" = some (.ref f) ∧ FunC K "_law_noted" "_law_noted" s9 f fd c ∧ PySem.W.keepIn K (.ref f) = true ∧ Binds K fd ["_law_heard", "_law_call", "_law_reply"] []
  f10 : ∃ f fd c, mg "_law_reckoned" = some (.ref f) ∧ FunC K "_law_reckoned" "_law_reckoned" s10 f fd c ∧ PySem.W.keepIn K (.ref f) = true ∧ Binds K fd ["_law_one", "_law_other", "_law_a", "_law_b", "_law_many"] []
  f11 : ∃ f fd c, mg "_law_cases" = some (.ref f) ∧ FunC K "_law_cases" "_law_cases" s11 f fd c ∧ PySem.W.keepIn K (.ref f) = true ∧ Binds K fd ["_law_words_here", "_law_one", "_law_other", "_law_a", "_law_b", "_law_less"] []
  f12 : ∃ f fd c P, mg "law" = some (.ref f) ∧ FunC K "law" "law" s12 f fd c ∧ PySem.W.keepIn K (.ref f) = true ∧ Binds K fd ["_law_script"] [] ∧ (P, ("law.<locals>.<lambda>" : Str)) ∈ T ∧ (∀ p ∈ T, p.1 = P → p.2 = "law.<locals>.<lambda>") ∧ (c, P) ∈ cs
theorem all_ok {P : Program} {w : World} {K : PySem.W.Frag} {mg : Str → Option Value} {T : List (Addr × Str)} {base : Heap} {cs : List (Addr × Addr)} (FF : Facts K mg T cs) (hTB : ∀ p ∈ cs, TabB base mg p.1 p.2) : ∀ n, AllOk (ctOf K mg T tb) sig tb P w base n (run n).1 (run n).2
  | 0 => ⟨fun id x np e => match id, e with
    | 0, e => by cases e; obtain ⟨f, fd, c, m, F, kp, b⟩ := FF.f0; exact hs_none m kp b
    | 1, e => by cases e; obtain ⟨f, fd, c, m, F, kp, b⟩ := FF.f1; exact hs_none m kp b
    | 2, e => by cases e; obtain ⟨f, fd, c, m, F, kp, b⟩ := FF.f2; exact hs_none m kp b
    | 3, e => by cases e; obtain ⟨f, fd, c, m, F, kp, b⟩ := FF.f3; exact hs_none m kp b
    | 4, e => by cases e; obtain ⟨f, fd, c, m, F, kp, b⟩ := FF.f4; exact hs_none m kp b
    | 5, e => by cases e; obtain ⟨f, fd, c, m, F, kp, b⟩ := FF.f5; exact hs_none m kp b
    | 6, e => by cases e; obtain ⟨f, fd, c, m, F, kp, b⟩ := FF.f6; exact hs_none m kp b
    | 7, e => by cases e; obtain ⟨f, fd, c, m, F, kp, b⟩ := FF.f7; exact hs_none m kp b
    | 8, e => by cases e; obtain ⟨f, fd, c, m, F, kp, b⟩ := FF.f8; exact hs_none m kp b
    | 9, e => by cases e; obtain ⟨f, fd, c, m, F, kp, b⟩ := FF.f9; exact hs_none m kp b
    | 10, e => by cases e; obtain ⟨f, fd, c, m, F, kp, b⟩ := FF.f10; exact hs_none m kp b
    | 11, e => by cases e; obtain ⟨f, fd, c, m, F, kp, b⟩ := FF.f11; exact hs_none m kp b
    | 12, e => by cases e; obtain ⟨f, fd, c, P, m, F, kp, b, _⟩ := FF.f12; exact hs_none m kp b
    | _ + 13, e => by simp [sig] at e, fun id li e => match id, e with
    | 0, e => by cases e; exact clo_none
    | 1, e => by cases e; exact clo_none
    | _ + 2, e => by simp [tb] at e⟩
  | n + 1 => by
    have A := all_ok (P := P) (w := w) (base := base) FF hTB n
    exact ⟨fun id x np e => match id, e with
      | 0, e => by cases e; obtain ⟨f, fd, c, m, F, kp, b⟩ := FF.f0; exact hs_mk m F kp b sc0 fun A0 outer s H E o => d0 FF.z A o
      | 1, e => by cases e; obtain ⟨f, fd, c, m, F, kp, b⟩ := FF.f1; exact hs_mk m F kp b sc1 fun A0 outer s H E o => d1 FF.z A o
      | 2, e => by cases e; obtain ⟨f, fd, c, m, F, kp, b⟩ := FF.f2; exact hs_mk m F kp b sc2 fun A0 outer s H E o => d2 FF.z A o
      | 3, e => by cases e; obtain ⟨f, fd, c, m, F, kp, b⟩ := FF.f3; exact hs_mk m F kp b sc3 fun A0 outer s H E o => d3 FF.z A o
      | 4, e => by cases e; obtain ⟨f, fd, c, m, F, kp, b⟩ := FF.f4; exact hs_mk m F kp b sc4 fun A0 outer s H E o => d4 FF.z A o
      | 5, e => by cases e; obtain ⟨f, fd, c, m, F, kp, b⟩ := FF.f5; exact hs_mk m F kp b sc5 fun A0 outer s H E o => d5 FF.z A o
      | 6, e => by cases e; obtain ⟨f, fd, c, m, F, kp, b⟩ := FF.f6; exact hs_mk m F kp b sc6 fun A0 outer s H E o => d6 FF.z A o
      | 7, e => by cases e; obtain ⟨f, fd, c, m, F, kp, b⟩ := FF.f7; exact hs_mk m F kp b sc7 fun A0 outer s H E o => d7 FF.z A o
      | 8, e => by cases e; obtain ⟨f, fd, c, m, F, kp, b⟩ := FF.f8; exact hs_mk m F kp b sc8 fun A0 outer s H E o => d8 FF.z A o
      | 9, e => by cases e; obtain ⟨f, fd, c, m, F, kp, b⟩ := FF.f9; exact hs_mk m F kp b sc9 fun A0 outer s H E o => d9 FF.z A o
      | 10, e => by cases e; obtain ⟨f, fd, c, m, F, kp, b⟩ := FF.f10; exact hs_mk m F kp b sc10 fun A0 outer s H E o => d10 FF.z A o
      | 11, e => by cases e; obtain ⟨f, fd, c, m, F, kp, b⟩ := FF.f11; exact hs_mk m F kp b sc11 fun A0 outer s H E o => d11 FF.z A o
      | 12, e => by cases e; obtain ⟨f, fd, c, P, m, F, kp, b, t1, t2, t3⟩ := FF.f12; exact hs_mk m F kp b sc12 fun A0 outer s H E o => d12 FF.z A o ⟨c, P, hTB _ t3, rfl, t1, t2⟩
      | _ + 13, e => by simp [sig] at e, fun id li e => match id, e with
      | 0, e => by cases e; exact lam_def ns0 (fun _ _ _ _ _ us hl => match us, hl with | [_, _, _], _ => rfl) fun F f A0 outer s H E hF hr => e0 hF FF.z A (xok_ncx (ps := li0.ps) (fr := li0.fr) (hF ▸ ns0) hr)
      | 1, e => by cases e; exact lam_def ns1 (fun _ _ _ _ _ us hl => match us, hl with | [_, _, _], _ => rfl) fun F f A0 outer s H E hF hr => e1 hF FF.z A (xok_ncx (ps := li1.ps) (fr := li1.fr) (hF ▸ ns1) hr)
      | _ + 2, e => by simp [tb] at e⟩
theorem mk_facts {K : PySem.W.Frag} {h : Heap} {mg : Str → Option Value} {f0 c0 f1 c1 f2 c2 f3 c3 f4 c4 f5 c5 f6 c6 f7 c7 f8 c8 f9 c9 f10 c10 f11 c11 f12 c12 P12 : Addr} (X : K.In h) (G : h.Ns mainGlobals mg) {od0 an0 od1 an1 od2 an2 od3 an3 od4 an4 od5 an5 od6 an6 od7 an7 od8 an8 od9 an9 od10 an10 od11 an11 od12 an12 : Option Addr} {sl0 sl1 sl2 sl3 sl4 sl5 sl6 sl7 sl8 sl9 sl10 sl11 sl12 : Array (Option Value)} {oc0 kV0 dc0 pm0 ct0 oc1 kV1 dc1 pm1 ct1 oc2 kV2 dc2 pm2 ct2 oc3 kV3 dc3 pm3 ct3 oc4 kV4 dc4 pm4 ct4 oc5 kV5 dc5 pm5 ct5 oc6 kV6 dc6 pm6 ct6 oc7 kV7 dc7 pm7 ct7 oc8 kV8 dc8 pm8 ct8 oc9 kV9 dc9 pm9 ct9 oc10 kV10 dc10 pm10 ct10 oc11 kV11 dc11 pm11 ct11 oc12 kV12 dc12 pm12 ct12 : Value}
    (a0 : PySem.W.nsIn K mainGlobals "reckoned" = some (some (.ref f0)))
    (l0 : K.lookup f0 = some ⟨oc0, od0, .func (PySem.W.fnOf "reckoned" "reckoned" (defArgs s0) (defBody s0) (defScope s0) .none kV0 dc0 pm0 an0 (.ref c0) ct0), sl0⟩)
    (gg0 : PySem.W.codeIn K (.ref c0) "reckoned" = true) (k0 : PySem.W.keepIn K (.ref f0) = true)
    (a1 : PySem.W.nsIn K mainGlobals "tested" = some (some (.ref f1)))
    (l1 : K.lookup f1 = some ⟨oc1, od1, .func (PySem.W.fnOf "tested" "tested" (defArgs s1) (defBody s1) (defScope s1) .none kV1 dc1 pm1 an1 (.ref c1) ct1), sl1⟩)
    (gg1 : PySem.W.codeIn K (.ref c1) "tested" = true) (k1 : PySem.W.keepIn K (.ref f1) = true)
    (a2 : PySem.W.nsIn K mainGlobals "value_let" = some (some (.ref f2)))
    (l2 : K.lookup f2 = some ⟨oc2, od2, .func (PySem.W.fnOf "value_let" "value_let" (defArgs s2) (defBody s2) (defScope s2) .none kV2 dc2 pm2 an2 (.ref c2) ct2), sl2⟩)
    (gg2 : PySem.W.codeIn K (.ref c2) "value_let" = true) (k2 : PySem.W.keepIn K (.ref f2) = true)
    (a3 : PySem.W.nsIn K mainGlobals "value_of" = some (some (.ref f3)))
    (l3 : K.lookup f3 = some ⟨oc3, od3, .func (PySem.W.fnOf "value_of" "value_of" (defArgs s3) (defBody s3) (defScope s3) .none kV3 dc3 pm3 an3 (.ref c3) ct3), sl3⟩)
    (gg3 : PySem.W.codeIn K (.ref c3) "value_of" = true) (k3 : PySem.W.keepIn K (.ref f3) = true)
    (a4 : PySem.W.nsIn K mainGlobals "_law_cell_at" = some (some (.ref f4)))
    (l4 : K.lookup f4 = some ⟨oc4, od4, .func (PySem.W.fnOf "_law_cell_at" "_law_cell_at" (defArgs s4) (defBody s4) (defScope s4) .none kV4 dc4 pm4 an4 (.ref c4) ct4), sl4⟩)
    (gg4 : PySem.W.codeIn K (.ref c4) "_law_cell_at" = true) (k4 : PySem.W.keepIn K (.ref f4) = true)
    (a5 : PySem.W.nsIn K mainGlobals "_law_whole" = some (some (.ref f5)))
    (l5 : K.lookup f5 = some ⟨oc5, od5, .func (PySem.W.fnOf "_law_whole" "_law_whole" (defArgs s5) (defBody s5) (defScope s5) .none kV5 dc5 pm5 an5 (.ref c5) ct5), sl5⟩)
    (gg5 : PySem.W.codeIn K (.ref c5) "_law_whole" = true) (k5 : PySem.W.keepIn K (.ref f5) = true)
    (a6 : PySem.W.nsIn K mainGlobals "_law_alike" = some (some (.ref f6)))
    (l6 : K.lookup f6 = some ⟨oc6, od6, .func (PySem.W.fnOf "_law_alike" "_law_alike" (defArgs s6) (defBody s6) (defScope s6) .none kV6 dc6 pm6 an6 (.ref c6) ct6), sl6⟩)
    (gg6 : PySem.W.codeIn K (.ref c6) "_law_alike" = true) (k6 : PySem.W.keepIn K (.ref f6) = true)
    (a7 : PySem.W.nsIn K mainGlobals "_law_words" = some (some (.ref f7)))
    (l7 : K.lookup f7 = some ⟨oc7, od7, .func (PySem.W.fnOf "_law_words" "_law_words" (defArgs s7) (defBody s7) (defScope s7) .none kV7 dc7 pm7 an7 (.ref c7) ct7), sl7⟩)
    (gg7 : PySem.W.codeIn K (.ref c7) "_law_words" = true) (k7 : PySem.W.keepIn K (.ref f7) = true)
    (a8 : PySem.W.nsIn K mainGlobals "_law_side" = some (some (.ref f8)))
    (l8 : K.lookup f8 = some ⟨oc8, od8, .func (PySem.W.fnOf "_law_side" "_law_side" (defArgs s8) (defBody s8) (defScope s8) .none kV8 dc8 pm8 an8 (.ref c8) ct8), sl8⟩)
    (gg8 : PySem.W.codeIn K (.ref c8) "_law_side" = true) (k8 : PySem.W.keepIn K (.ref f8) = true)
    (a9 : PySem.W.nsIn K mainGlobals "_law_noted" = some (some (.ref f9)))
    (l9 : K.lookup f9 = some ⟨oc9, od9, .func (PySem.W.fnOf "_law_noted" "_law_noted" (defArgs s9) (defBody s9) (defScope s9) .none kV9 dc9 pm9 an9 (.ref c9) ct9), sl9⟩)
    (gg9 : PySem.W.codeIn K (.ref c9) "_law_noted" = true) (k9 : PySem.W.keepIn K (.ref f9) = true)
    (a10 : PySem.W.nsIn K mainGlobals "_law_reckoned" = some (some (.ref f10)))
    (l10 : K.lookup f10 = some ⟨oc10, od10, .func (PySem.W.fnOf "_law_reckoned" "_law_reckoned" (defArgs s10) (defBody s10) (defScope s10) .none kV10 dc10 pm10 an10 (.ref c10) ct10), sl10⟩)
    (gg10 : PySem.W.codeIn K (.ref c10) "_law_reckoned" = true) (k10 : PySem.W.keepIn K (.ref f10) = true)
    (a11 : PySem.W.nsIn K mainGlobals "_law_cases" = some (some (.ref f11)))
    (l11 : K.lookup f11 = some ⟨oc11, od11, .func (PySem.W.fnOf "_law_cases" "_law_cases" (defArgs s11) (defBody s11) (defScope s11) .none kV11 dc11 pm11 an11 (.ref c11) ct11), sl11⟩)
    (gg11 : PySem.W.codeIn K (.ref c11) "_law_cases" = true) (k11 : PySem.W.keepIn K (.ref f11) = true)
    (a12 : PySem.W.nsIn K mainGlobals "law" = some (some (.ref f12)))
    (l12 : K.lookup f12 = some ⟨oc12, od12, .func (PySem.W.fnOf "law" "law" (defArgs s12) (defBody s12) (defScope s12) .none kV12 dc12 pm12 an12 (.ref c12) ct12), sl12⟩)
    (gg12 : PySem.W.codeIn K (.ref c12) "law" = true) (k12 : PySem.W.keepIn K (.ref f12) = true)
    (z_all : PySem.W.nsIn K mainGlobals "all" = some none)
    (z_bool : PySem.W.nsIn K mainGlobals "bool" = some none)
    (z_dict : PySem.W.nsIn K mainGlobals "dict" = some none)
    (z_int : PySem.W.nsIn K mainGlobals "int" = some none)
    (z_isinstance : PySem.W.nsIn K mainGlobals "isinstance" = some none)
    (z_len : PySem.W.nsIn K mainGlobals "len" = some none)
    (z_list : PySem.W.nsIn K mainGlobals "list" = some none)
    (z_range : PySem.W.nsIn K mainGlobals "range" = some none)
    (z_str : PySem.W.nsIn K mainGlobals "str" = some none)
    (z_tuple : PySem.W.nsIn K mainGlobals "tuple" = some none)
    (z_zip : PySem.W.nsIn K mainGlobals "zip" = some none)
    : Facts K mg [(P12, "law.<locals>.<lambda>")] [(c12, P12)] := by
  refine ⟨⟨PySem.W.mg_none_of X G z_all, PySem.W.mg_none_of X G z_bool, PySem.W.mg_none_of X G z_dict, PySem.W.mg_none_of X G z_int, PySem.W.mg_none_of X G z_isinstance, PySem.W.mg_none_of X G z_len, PySem.W.mg_none_of X G z_list, PySem.W.mg_none_of X G z_range, PySem.W.mg_none_of X G z_str, PySem.W.mg_none_of X G z_tuple, PySem.W.mg_none_of X G z_zip⟩, ?x0, ?x1, ?x2, ?x3, ?x4, ?x5, ?x6, ?x7, ?x8, ?x9, ?x10, ?x11, ?x12⟩
  · exact ⟨f0, _, c0, PySem.W.mg_of X G a0, funC_mk l0 gg0, k0, (funC_mk (st := s0) l0 gg0).binds fun _ _ _ _ _ _ us hl => match us, hl with | [_, _, _, _], _ => rfl⟩
  · exact ⟨f1, _, c1, PySem.W.mg_of X G a1, funC_mk l1 gg1, k1, (funC_mk (st := s1) l1 gg1).binds fun _ _ _ _ _ _ us hl => match us, hl with | [_, _, _], _ => rfl⟩
  · exact ⟨f2, _, c2, PySem.W.mg_of X G a2, funC_mk l2 gg2, k2, (funC_mk (st := s2) l2 gg2).binds fun _ _ _ _ _ _ us hl => match us, hl with | [_, _, _], _ => rfl⟩
  · exact ⟨f3, _, c3, PySem.W.mg_of X G a3, funC_mk l3 gg3, k3, (funC_mk (st := s3) l3 gg3).binds fun _ _ _ _ _ _ us hl => match us, hl with | [_, _, _], _ => rfl⟩
  · exact ⟨f4, _, c4, PySem.W.mg_of X G a4, funC_mk l4 gg4, k4, (funC_mk (st := s4) l4 gg4).binds fun _ _ _ _ _ _ us hl => match us, hl with | [_, _], _ => rfl⟩
  · exact ⟨f5, _, c5, PySem.W.mg_of X G a5, funC_mk l5 gg5, k5, (funC_mk (st := s5) l5 gg5).binds fun _ _ _ _ _ _ us hl => match us, hl with | [_], _ => rfl⟩
  · exact ⟨f6, _, c6, PySem.W.mg_of X G a6, funC_mk l6 gg6, k6, (funC_mk (st := s6) l6 gg6).binds fun _ _ _ _ _ _ us hl => match us, hl with | [_, _], _ => rfl⟩
  · exact ⟨f7, _, c7, PySem.W.mg_of X G a7, funC_mk l7 gg7, k7, (funC_mk (st := s7) l7 gg7).binds fun _ _ _ _ _ _ us hl => match us, hl with | [_, _], _ => rfl⟩
  · exact ⟨f8, _, c8, PySem.W.mg_of X G a8, funC_mk l8 gg8, k8, (funC_mk (st := s8) l8 gg8).binds fun _ _ _ _ _ _ us hl => match us, hl with | [_, _, _, _], _ => rfl⟩
  · exact ⟨f9, _, c9, PySem.W.mg_of X G a9, funC_mk l9 gg9, k9, (funC_mk (st := s9) l9 gg9).binds fun _ _ _ _ _ _ us hl => match us, hl with | [_, _, _], _ => rfl⟩
  · exact ⟨f10, _, c10, PySem.W.mg_of X G a10, funC_mk l10 gg10, k10, (funC_mk (st := s10) l10 gg10).binds fun _ _ _ _ _ _ us hl => match us, hl with | [_, _, _, _, _], _ => rfl⟩
  · exact ⟨f11, _, c11, PySem.W.mg_of X G a11, funC_mk l11 gg11, k11, (funC_mk (st := s11) l11 gg11).binds fun _ _ _ _ _ _ us hl => match us, hl with | [_, _, _, _, _, _], _ => rfl⟩
  · exact ⟨f12, _, c12, P12, PySem.W.mg_of X G a12, funC_mk l12 gg12, k12, (funC_mk (st := s12) l12 gg12).binds fun _ _ _ _ _ _ us hl => match us, hl with | [_], _ => rfl, List.mem_singleton.mpr rfl, fun p hp _ => by rw [List.mem_singleton.mp hp], List.mem_singleton.mpr rfl⟩
end K71
namespace K71
open PySem SD
def cellAt (ns : List Int) (k : Nat) : Int :=
  if h : k < ns.length then ns[k] else if h2 : ns.length > 0 then ((ns[k % ns.length]'(Nat.mod_lt _ h2)) % 1000003 * 48271 + 7919 * k * k) % 2147483647 else (7919 * k + 11) % 2147483647
theorem log_lt {i : Int} {n : Nat} (h : i.natAbs < 2 ^ n) : i.natAbs.log2 ≤ n := by
  by_cases z : i.natAbs = 0
  · rw [z]; simp
  · exact Nat.le_of_lt ((Nat.log2_lt z).mpr h)
theorem mul_ok {i j : Int} (hi : i.natAbs < 2 ^ 100) (hj : j.natAbs < 2 ^ 100) : mulOk i j = true := by
  unfold mulOk
  have := log_lt hi
  have := log_lt hj
  exact decide_eq_true (by omega)
theorem ev_cell (n : Nat) (ns : List Int) (hl : ns.length ≤ 63) (k : Nat) (hk : k ≤ 20) (h : Os) : (run (n + 1)).1 4 [.fls (ns.map U.int), .int k] h = .ok (.int (cellAt ns k)) h := by
  show runDef 3 (b4 _ _) _ _ = _
  unfold runDef
  have : toR (b4 (run n).1 (run n).2 (List.map some [U.fls (List.map U.int ns), U.int k] ++ List.replicate (3 - [U.fls (List.map U.int ns), U.int k].length) none) h) = .ok (.int (cellAt ns k)) h := by
    by_cases h1 : k < ns.length
    · have e : opIx (.fls (ns.map U.int)) (.int k) h = .ok (.int ns[k]) h := opIx_fls (by simp [h1])
      simp [b4, h1, e, cellAt]
    · by_cases h2 : ns.length > 0
      · have hm : k % ns.length < ns.length := Nat.mod_lt _ h2
        have e : opIx (.fls (ns.map U.int)) (.int ((k : Int) % (ns.length : Int))) h = .ok (.int ns[k % ns.length]) h := by
          rw [show ((k : Int) % (ns.length : Int)) = ((k % ns.length : Nat) : Int) by simp]
          exact opIx_fls (by simp [hm])
        have m1 : mulOk 7919 (k : Int) = true := mul_ok (by decide) (by omega)
        have m2 : mulOk (7919 * (k : Int)) k = true := mul_ok (by omega) (by omega)
        have m3 : mulOk (ns[k % ns.length] % 1000003) 48271 = true := mul_ok (by omega) (by decide)
        have h3 : (0 : Int) < ns.length := by omega
        simp [b4, h1, h2, h3, e, cellAt, m1, m2, m3]
      · have h3 : ¬ (0 : Int) < ns.length := by omega
        have m1 : mulOk 7919 (k : Int) = true := mul_ok (by decide) (by omega)
        simp [b4, h1, h2, h3, cellAt, m1]
  rw [this, gc_same]

/-! ### words -/
def abc : Str := "abcdefghijklmnopqrstuvwxyz"
def kqz : Str := "kqz"
def ch (x : Int) : Str := ⟨#[97 + (x % 26).toNat]⟩
theorem abc_at : ∀ k < 26, abc.cps.toList[k]? = some (97 + k) := by decide +kernel
theorem kqz_at : ∀ k < 3, kqz.cps.toList[k]? = some (([107, 113, 122] : List Nat).getD k 0) := by decide +kernel
theorem ix_abc (x : Int) (h : Os) : opIx (.str abc) (.int (x % 26)) h = .ok (.str (ch x)) h := by
  have e : x % 26 = (((x % 26).toNat : Nat) : Int) := by omega
  have := opIx_str (h := h) (abc_at (x % 26).toNat (by omega)) (by decide +kernel)
  rw [← e] at this
  exact this
theorem ix_kqz (x : Int) : ∃ s : Str, s.length = 1 ∧ PyData.strOk s = true ∧ ∀ h, opIx (.str kqz) (.int (x % 3)) h = .ok (.str s) h := by
  have e : x % 3 = (((x % 3).toNat : Nat) : Int) := by omega
  refine ⟨⟨#[([107, 113, 122] : List Nat).getD (x % 3).toNat 0]⟩, rfl, ?_, fun h => ?_⟩
  · have : ∀ k < 3, PyData.strOk ⟨#[([107, 113, 122] : List Nat).getD k 0]⟩ = true := by decide +kernel
    exact this _ (by omega)
  have := opIx_str (h := h) (kqz_at (x % 3).toNat (by omega)) (by decide +kernel)
  rw [← e] at this
  exact this
theorem ch_len (x : Int) : (ch x).length = 1 := rfl
theorem ch_inj {x y : Int} (e : ch x = ch y) : x % 26 = y % 26 := by
  unfold ch at e
  have : 97 + (x % 26).toNat = 97 + (y % 26).toNat := by injection e with e; simpa using e
  omega
theorem nodup_map {f : Nat → Str} {m : Nat} (hf : ∀ i j, i < m → j < m → f i = f j → i = j) : ((List.range m).map f).Nodup := by
  rw [List.nodup_iff_pairwise_ne, List.pairwise_map]
  refine List.Pairwise.imp_of_mem (R := fun a b => a ≠ b) (fun ha hb hne e => hne (hf _ _ (by simpa using ha) (by simpa using hb) e)) ?_
  exact List.nodup_range
def divs : divOk 0 12 = true := by decide +kernel
theorem div_ok {x j : Int} (e : divOk 0 j = true) : divOk x j = true := e
theorem sum_ones : ∀ {α : Type} (l : List α) (f : α → Str), (∀ a, (f a).length = 1) → ((l.map f).map (·.length)).sum = l.length
  | _, [], _, _ => rfl
  | _, a :: l, f, hf => by rw [List.map_cons, List.map_cons, List.sum_cons, sum_ones l f hf, hf a, List.length_cons]; omega
/-- joined single signs -/
theorem tl_ch (x : Int) : TL.tl (ch x) = [97 + (x % 26).toNat] := rfl
theorem joinL_nil : ∀ ps : List (List Nat), TL.joinL [] ps = ps.flatten
  | [] => rfl
  | [p] => by simp [TL.joinL]
  | p :: q :: r => by rw [TL.joinL, joinL_nil (q :: r)]; simp
theorem flat_one {α β : Type} (f : α → β) : ∀ l : List α, List.flatMap (fun a => [f a]) l = l.map f
  | [] => rfl
  | a :: l => by rw [List.flatMap_cons, flat_one f l]; rfl
theorem join_ch {m : Nat} (f : Nat → Int) : TL.tl (Txt.join "" ((List.range m).map fun j => ch (f j))) = (List.range m).map fun j => 97 + (f j % 26).toNat := by
  rw [TL.join_eq, TL.tl_join, show TL.tl "" = [] from rfl, joinL_nil, List.map_map]
  have : (TL.tl ∘ fun j => ch (f j)) = fun j => [97 + (f j % 26).toNat] := rfl
  rw [this, List.flatten_eq_flatMap, List.flatMap_map]
  exact flat_one _ _
theorem ok_ch (x : Int) : PyData.strOk (ch x) = true := by
  unfold ch PyData.strOk
  simp
  omega
theorem ok_tl {x : Str} (h : ∀ c ∈ TL.tl x, c < 0x110000) : PyData.strOk x = true := by
  unfold PyData.strOk
  rw [← Array.all_toList, List.all_eq_true]
  exact fun c hc => decide_eq_true (h c hc)
theorem tl_ok {x : Str} (h : PyData.strOk x = true) : ∀ c ∈ TL.tl x, c < 0x110000 := by
  unfold PyData.strOk at h
  rw [← Array.all_toList, List.all_eq_true] at h
  exact fun c hc => of_decide_eq_true (h c hc)
theorem ev_words (n : Nat) (c : Int) (m : Nat) (hm : m ≤ 26) (h : Os) (hw : wf h = true) : ∃ ws : List Str, ws.length = m ∧ ws.Nodup ∧ (∀ x ∈ ws, PyData.strOk x = true) ∧ (run (n + 1)).1 7 [.int c, .int m] h = .ok (.ref h.length) (h ++ [.lst (ws.map U.str)]) := by
  have fin : ∀ (ws : List Str) (t : Os) (k : Nat), t[k]? = some (.lst (ws.map U.str)) → gc h.length (.ok (.ref (h.length + k)) (h ++ t)) = .ok (.ref h.length) (h ++ [.lst (ws.map U.str)]) := fun ws t k e => gc_new rfl hw e (bds_str ws)
  by_cases h0 : c % 12 = 0
  · refine ⟨(List.range m).map fun i : Nat => ch (c / 12 + i), by simp, nodup_map fun i j hi hj e => ?_, ?_, ?_⟩
    · have := ch_inj e
      omega
    · intro x hx
      obtain ⟨i, _, rfl⟩ := List.mem_map.mp hx
      exact ok_ch _
    · show runDef 9 (b7 _ _) _ _ = _
      unfold runDef
      have e1 : goLc (gN 4) mYes (mBin opIx (mVar 2) (mBin opMod (mBin opAdd (mBin opDiv (mVar 0) (mC (.int 12))) (mVar 4)) (mC (.int 26)))) [] [some (.int c), some (.int m), some (.str abc), some (.int 0), none, none, none, none, none] (rngU 0 m) h [] = .ok ([] ++ (rngU 0 m).map fun u => match u with | .int i => .str (ch (c / 12 + i)) | _ => .non) h := by
        refine goLc_pure (fun u hu => ?_) (by rw [rngU_len]; simp; omega) rfl
        obtain ⟨i, hi, rfl⟩ := rngU_mem hu
        have hix := ix_abc (c / 12 + i) h
        refine ⟨_, rfl, ?_⟩
        simp [div_ok divs, hix]
      have e2 : ([] ++ (rngU 0 m).map fun u => match u with | .int i => U.str (ch (c / 12 + i)) | _ => .non) = ((List.range m).map fun i : Nat => ch (c / 12 + i)).map U.str := by
        unfold rngU
        simp
      have : toR (b7 (run n).1 (run n).2 (List.map some [U.int c, U.int m] ++ List.replicate (9 - [U.int c, U.int m].length) none) h) = .ok (.ref (h.length + 0)) (h ++ [.lst (((List.range m).map fun i : Nat => ch (c / 12 + i)).map U.str)]) := by
        have kr := kRange_nat (h := h) (j := m) (by omega)
        rw [e2] at e1
        simp [b7, h0, kr]
        rw [show (Str.ofString "abcdefghijklmnopqrstuvwxyz") = abc from rfl, e1]
        simp
      rw [this]
      exact fin _ _ 0 rfl
  · obtain ⟨sz, hsz, hs1, hs2⟩ : ∃ sz : Nat, c % 12 = sz ∧ 0 < sz ∧ sz < 12 := ⟨(c % 12).toNat, by omega, by omega, by omega⟩
    obtain ⟨at_, hat⟩ : ∃ at_ : Int, at_ = c / 12 % sz := ⟨_, rfl⟩
    have hat0 : 0 ≤ at_ ∧ at_ < sz := by
      rw [hat]
      exact ⟨Int.emod_nonneg _ (by omega), Int.emod_lt_of_pos _ (by omega)⟩
    obtain ⟨s, sl, sk, sq⟩ := ix_kqz (c / 144)
    let sign : Nat → Nat → Int := fun k j => c / 432 + 7 * j * j + k * (if (j : Int) = at_ then 1 else 0)
    let signs : Nat → List Str := fun k => (List.range sz).map fun j => ch (sign k j)
    let word : Nat → Str := fun k => s ++ Txt.join "" (signs k)
    have jl : ∀ k, (Txt.join "" (signs k)).length = sz := fun k => by
      have := congrArg List.length (join_ch (m := sz) (sign k))
      rw [List.length_map, List.length_range] at this
      exact this
    have inner : ∀ (k : Nat) (x7 : Option U) (h' : Os), k ≤ 26 → goLc (gN 8) mYes (mBin opIx (mVar 2) (mBin opMod (mBin opAdd (mBin opAdd (mBin opDiv (mVar 0) (mC (.int 432))) (mBin opMul (mBin opMul (mC (.int 7)) (mVar 8)) (mVar 8))) (mBin opMul (mVar 4) (mCB bInt (mCons (mBin opEq (mVar 8) (mVar 5)) mNil)))) (mC (.int 26)))) []
        [some (.int c), some (.int m), some (.str abc), some (.int sz), some (.int k), some (.int at_), some (.ref h.length), x7, none] (rngU 0 sz) h' [] = .ok ((signs k).map U.str) h' := fun k x7 h' hk => by
      have : (signs k).map U.str = [] ++ (rngU 0 sz).map fun u => match u with | .int j => U.str (ch (c / 432 + 7 * j * j + k * (if j = at_ then 1 else 0))) | _ => .non := by
        show ((List.range sz).map _).map _ = _
        unfold rngU
        simp [sign]
      rw [this]
      refine goLc_pure (fun u hu => ?_) (by rw [rngU_len]; simp; omega) rfl
      obtain ⟨j, hj, rfl⟩ := rngU_mem hu
      refine ⟨_, rfl, ?_⟩
      have m1 : mulOk 7 (j : Int) = true := mul_ok (by decide) (by omega)
      have m2 : mulOk (7 * (j : Int)) j = true := mul_ok (by omega) (by omega)
      have m3 : mulOk (k : Int) (if (j : Int) = at_ then 1 else 0) = true := mul_ok (by omega) (by split <;> decide)
      have d1 : divOk c 432 = true := div_ok (by decide +kernel)
      have hix := ix_abc (c / 432 + 7 * j * j + k * (if (j : Int) = at_ then 1 else 0)) h'
      simp [m1, m2, m3, d1, hix]
    refine ⟨(List.range m).map word, by simp, nodup_map fun i j hi hj e => ?_, ?_, ?_⟩
    · have e1 : TL.tl s ++ TL.tl (Txt.join "" (signs i)) = TL.tl s ++ TL.tl (Txt.join "" (signs j)) := by rw [← TL.tl_append, ← TL.tl_append]; exact congrArg TL.tl e
      have e2 := List.append_cancel_left e1
      rw [join_ch (m := sz) (sign i), join_ch (m := sz) (sign j)] at e2
      have e3 := congrArg (fun l => l[at_.toNat]?) e2
      have ha : ((at_.toNat : Nat) : Int) = at_ := by omega
      have hb : at_.toNat < sz := by omega
      simp [sign, hb, ha] at e3
      omega
    · intro x hx
      obtain ⟨i, _, rfl⟩ := List.mem_map.mp hx
      refine ok_tl fun c hc => ?_
      have hc : c ∈ TL.tl (s ++ Txt.join "" (signs i)) := hc
      rw [TL.tl_append] at hc
      rcases List.mem_append.mp hc with z | z
      · exact tl_ok sk c z
      · rw [join_ch (m := sz) (sign i)] at z
        obtain ⟨j, _, rfl⟩ := List.mem_map.mp z
        omega
    · show runDef 9 (b7 _ _) _ _ = _
      unfold runDef
      have hl : ∀ i : Nat, i < m → (((List.range i).map word).map U.str).length < 100000 := fun i hi => by simp; omega
      have loop : ∃ ρ' h', goFor (gN 4) (mSeq (mAsg (mLc (mRange (mCons (mVar 3) mNil)) (gN 8) mYes (mBin opIx (mVar 2) (mBin opMod (mBin opAdd (mBin opAdd (mBin opDiv (mVar 0) (mC (.int 432))) (mBin opMul (mBin opMul (mC (.int 7)) (mVar 8)) (mVar 8))) (mBin opMul (mVar 4) (mCB bInt (mCons (mBin opEq (mVar 8) (mVar 5)) mNil)))) (mC (.int 26)))) [8]) (gN 7))
          (mDrop (mBM "list" bAppend (mVar 6) (mCons (mBin opAdd (mBin opIx (mC (.str kqz)) (mBin opMod (mBin opDiv (mVar 0) (mC (.int 144))) (mC (.int 3)))) (mBM "str" bJoin (mC (.str "")) (mCons (mVar 7) mNil))) mNil)))) [] (rngU 0 m)
          [some (.int c), some (.int m), some (.str abc), some (.int sz), none, some (.int at_), some (.ref h.length), none, none] (h ++ [.lst []]) = .nx ρ' h' ∧
          ∃ x4 x7 t, ρ' = [some (.int c), some (.int m), some (.str abc), some (.int sz), x4, some (.int at_), some (.ref h.length), x7, none] ∧ h' = h ++ (.lst (((List.range m).map word).map U.str) :: t) := by
        have := goFor_inv (a := (mSeq (mAsg (mLc (mRange (mCons (mVar 3) mNil)) (gN 8) mYes (mBin opIx (mVar 2) (mBin opMod (mBin opAdd (mBin opAdd (mBin opDiv (mVar 0) (mC (.int 432))) (mBin opMul (mBin opMul (mC (.int 7)) (mVar 8)) (mVar 8))) (mBin opMul (mVar 4) (mCB bInt (mCons (mBin opEq (mVar 8) (mVar 5)) mNil)))) (mC (.int 26)))) [8]) (gN 7))
          (mDrop (mBM "list" bAppend (mVar 6) (mCons (mBin opAdd (mBin opIx (mC (.str kqz)) (mBin opMod (mBin opDiv (mVar 0) (mC (.int 144))) (mC (.int 3)))) (mBM "str" bJoin (mC (.str "")) (mCons (mVar 7) mNil))) mNil))))) (gm := gN 4) (gd := [])
          (P := fun i ρ' h' => ∃ x4 x7 t, ρ' = [some (.int c), some (.int m), some (.str abc), some (.int sz), x4, some (.int at_), some (.ref h.length), x7, none] ∧ h' = h ++ (.lst (((List.range i).map word).map U.str) :: t)) (us := rngU 0 m) (n := 0) (fun _ _ _ _ => rfl) (fun i u ρ h' hu p => ?_) (ρ := [some (.int c), some (.int m), some (.str abc), some (.int sz), none, some (.int at_), some (.ref h.length), none, none]) (h := h ++ [.lst []]) ⟨none, none, [], rfl, rfl⟩
        · rw [rngU_len, Nat.zero_add] at this
          exact this
        · have hi : i < m := by have := (List.getElem?_eq_some_iff.mp hu).1; rwa [rngU_len] at this
          rw [rngU_get hi] at hu
          cases hu
          rw [Nat.zero_add] at p ⊢
          obtain ⟨x4, x7, t, rfl, rfl⟩ := p
          have kr := kRange_nat (h := h ++ (.lst (((List.range i).map word).map U.str) :: t)) (j := sz) (by omega)
          have hin := inner i x7 (h ++ (.lst (((List.range i).map word).map U.str) :: t)) (by omega)
          have d1 : divOk c 144 = true := div_ok (by decide +kernel)
          refine ⟨_, _, _, rfl, ?_, ⟨some (.int i), some (.ref (h ++ (.lst (((List.range i).map word).map U.str) :: t)).length), t ++ [.lst ((signs i).map U.str)], rfl, rfl⟩⟩
          have e1 : ∀ H' : Os, H' = h ++ (.lst (((List.range i).map word).map U.str) :: t) → (H' ++ [.lst ((signs i).map U.str)] : Os)[h.length]? = some (.lst (((List.range i).map word).map U.str)) := fun H' e => by subst e; simp
          have e2 : ∀ H' : Os, (H' ++ [.lst ((signs i).map U.str)] : Os)[H'.length]? = some (.lst ((signs i).map U.str)) := fun H' => by simp
          generalize hH : h ++ (.lst (((List.range i).map word).map U.str) :: t) = H' at *
          have e1 := e1 H' rfl
          have e2 := e2 H'
          have j1 := bJoin_ok (x := "") e2 (by rw [sum_ones _ _ fun a => ch_len _, show (Str.ofString "").length = 0 from rfl]; simp; omega)
          have a1 := opAdd_s (h := H' ++ [.lst ((signs i).map U.str)]) (i := s) (j := Txt.join "" (signs i)) (by rw [sl, jl]; omega)
          have b1 := bAppend_ok (u := .str (word i)) e1 (hl i hi)
          have t1 := isTy_lst e1
          simp [kr, hin, d1, sq, j1, t1]
          rw [a1]
          simp
          rw [show U.str (s ++ Txt.join "" (signs i)) = U.str (word i) from rfl, b1]
          simp
          subst hH
          simp [List.range_succ, List.set_append]
      obtain ⟨ρ', h', e1, x4, x7, t, rfl, rfl⟩ := loop
      have : toR (b7 (run n).1 (run n).2 (List.map some [U.int c, U.int m] ++ List.replicate (9 - [U.int c, U.int m].length) none) h) = .ok (.ref (h.length + 0)) (h ++ (.lst (((List.range m).map word).map U.str) :: t)) := by
        have kr := kRange_nat (h := h ++ [.lst []]) (j := m) (by omega)
        have z : ¬ (sz = 0) := by omega
        have z2 : (0 : Int) < sz := by omega
        simp [b7, kr, hsz, z, hs1, div_ok divs, ← hat]
        rw [show (Str.ofString "abcdefghijklmnopqrstuvwxyz") = abc from rfl, show (Str.ofString "kqz") = kqz from rfl, e1]
        simp
      rw [this]
      exact fin _ _ 0 rfl
end K71
namespace K71
open PySem SD
@[simp] theorem ne_0_1 : (("lit" : Str) = "var") = False := eq_false (by decide +kernel)
@[simp] theorem ne_0_2 : (("lit" : Str) = "op") = False := eq_false (by decide +kernel)
@[simp] theorem ne_0_3 : (("lit" : Str) = "test") = False := eq_false (by decide +kernel)
@[simp] theorem ne_0_4 : (("lit" : Str) = "as") = False := eq_false (by decide +kernel)
@[simp] theorem ne_0_5 : (("lit" : Str) = "if") = False := eq_false (by decide +kernel)
@[simp] theorem ne_0_6 : (("lit" : Str) = "let") = False := eq_false (by decide +kernel)
@[simp] theorem ne_0_7 : (("lit" : Str) = "two") = False := eq_false (by decide +kernel)
@[simp] theorem ne_0_8 : (("lit" : Str) = "call") = False := eq_false (by decide +kernel)
@[simp] theorem ne_0_9 : (("lit" : Str) = "first") = False := eq_false (by decide +kernel)
@[simp] theorem ne_0_10 : (("lit" : Str) = "second") = False := eq_false (by decide +kernel)
@[simp] theorem ne_1_0 : (("var" : Str) = "lit") = False := eq_false (by decide +kernel)
@[simp] theorem ne_1_2 : (("var" : Str) = "op") = False := eq_false (by decide +kernel)
@[simp] theorem ne_1_3 : (("var" : Str) = "test") = False := eq_false (by decide +kernel)
@[simp] theorem ne_1_4 : (("var" : Str) = "as") = False := eq_false (by decide +kernel)
@[simp] theorem ne_1_5 : (("var" : Str) = "if") = False := eq_false (by decide +kernel)
@[simp] theorem ne_1_6 : (("var" : Str) = "let") = False := eq_false (by decide +kernel)
@[simp] theorem ne_1_7 : (("var" : Str) = "two") = False := eq_false (by decide +kernel)
@[simp] theorem ne_1_8 : (("var" : Str) = "call") = False := eq_false (by decide +kernel)
@[simp] theorem ne_1_9 : (("var" : Str) = "first") = False := eq_false (by decide +kernel)
@[simp] theorem ne_1_10 : (("var" : Str) = "second") = False := eq_false (by decide +kernel)
@[simp] theorem ne_2_0 : (("op" : Str) = "lit") = False := eq_false (by decide +kernel)
@[simp] theorem ne_2_1 : (("op" : Str) = "var") = False := eq_false (by decide +kernel)
@[simp] theorem ne_2_3 : (("op" : Str) = "test") = False := eq_false (by decide +kernel)
@[simp] theorem ne_2_4 : (("op" : Str) = "as") = False := eq_false (by decide +kernel)
@[simp] theorem ne_2_5 : (("op" : Str) = "if") = False := eq_false (by decide +kernel)
@[simp] theorem ne_2_6 : (("op" : Str) = "let") = False := eq_false (by decide +kernel)
@[simp] theorem ne_2_7 : (("op" : Str) = "two") = False := eq_false (by decide +kernel)
@[simp] theorem ne_2_8 : (("op" : Str) = "call") = False := eq_false (by decide +kernel)
@[simp] theorem ne_2_9 : (("op" : Str) = "first") = False := eq_false (by decide +kernel)
@[simp] theorem ne_2_10 : (("op" : Str) = "second") = False := eq_false (by decide +kernel)
@[simp] theorem ne_3_0 : (("test" : Str) = "lit") = False := eq_false (by decide +kernel)
@[simp] theorem ne_3_1 : (("test" : Str) = "var") = False := eq_false (by decide +kernel)
@[simp] theorem ne_3_2 : (("test" : Str) = "op") = False := eq_false (by decide +kernel)
@[simp] theorem ne_3_4 : (("test" : Str) = "as") = False := eq_false (by decide +kernel)
@[simp] theorem ne_3_5 : (("test" : Str) = "if") = False := eq_false (by decide +kernel)
@[simp] theorem ne_3_6 : (("test" : Str) = "let") = False := eq_false (by decide +kernel)
@[simp] theorem ne_3_7 : (("test" : Str) = "two") = False := eq_false (by decide +kernel)
@[simp] theorem ne_3_8 : (("test" : Str) = "call") = False := eq_false (by decide +kernel)
@[simp] theorem ne_3_9 : (("test" : Str) = "first") = False := eq_false (by decide +kernel)
@[simp] theorem ne_3_10 : (("test" : Str) = "second") = False := eq_false (by decide +kernel)
@[simp] theorem ne_4_0 : (("as" : Str) = "lit") = False := eq_false (by decide +kernel)
@[simp] theorem ne_4_1 : (("as" : Str) = "var") = False := eq_false (by decide +kernel)
@[simp] theorem ne_4_2 : (("as" : Str) = "op") = False := eq_false (by decide +kernel)
@[simp] theorem ne_4_3 : (("as" : Str) = "test") = False := eq_false (by decide +kernel)
@[simp] theorem ne_4_5 : (("as" : Str) = "if") = False := eq_false (by decide +kernel)
@[simp] theorem ne_4_6 : (("as" : Str) = "let") = False := eq_false (by decide +kernel)
@[simp] theorem ne_4_7 : (("as" : Str) = "two") = False := eq_false (by decide +kernel)
@[simp] theorem ne_4_8 : (("as" : Str) = "call") = False := eq_false (by decide +kernel)
@[simp] theorem ne_4_9 : (("as" : Str) = "first") = False := eq_false (by decide +kernel)
@[simp] theorem ne_4_10 : (("as" : Str) = "second") = False := eq_false (by decide +kernel)
@[simp] theorem ne_5_0 : (("if" : Str) = "lit") = False := eq_false (by decide +kernel)
@[simp] theorem ne_5_1 : (("if" : Str) = "var") = False := eq_false (by decide +kernel)
@[simp] theorem ne_5_2 : (("if" : Str) = "op") = False := eq_false (by decide +kernel)
@[simp] theorem ne_5_3 : (("if" : Str) = "test") = False := eq_false (by decide +kernel)
@[simp] theorem ne_5_4 : (("if" : Str) = "as") = False := eq_false (by decide +kernel)
@[simp] theorem ne_5_6 : (("if" : Str) = "let") = False := eq_false (by decide +kernel)
@[simp] theorem ne_5_7 : (("if" : Str) = "two") = False := eq_false (by decide +kernel)
@[simp] theorem ne_5_8 : (("if" : Str) = "call") = False := eq_false (by decide +kernel)
@[simp] theorem ne_5_9 : (("if" : Str) = "first") = False := eq_false (by decide +kernel)
@[simp] theorem ne_5_10 : (("if" : Str) = "second") = False := eq_false (by decide +kernel)
@[simp] theorem ne_6_0 : (("let" : Str) = "lit") = False := eq_false (by decide +kernel)
@[simp] theorem ne_6_1 : (("let" : Str) = "var") = False := eq_false (by decide +kernel)
@[simp] theorem ne_6_2 : (("let" : Str) = "op") = False := eq_false (by decide +kernel)
@[simp] theorem ne_6_3 : (("let" : Str) = "test") = False := eq_false (by decide +kernel)
@[simp] theorem ne_6_4 : (("let" : Str) = "as") = False := eq_false (by decide +kernel)
@[simp] theorem ne_6_5 : (("let" : Str) = "if") = False := eq_false (by decide +kernel)
@[simp] theorem ne_6_7 : (("let" : Str) = "two") = False := eq_false (by decide +kernel)
@[simp] theorem ne_6_8 : (("let" : Str) = "call") = False := eq_false (by decide +kernel)
@[simp] theorem ne_6_9 : (("let" : Str) = "first") = False := eq_false (by decide +kernel)
@[simp] theorem ne_6_10 : (("let" : Str) = "second") = False := eq_false (by decide +kernel)
@[simp] theorem ne_7_0 : (("two" : Str) = "lit") = False := eq_false (by decide +kernel)
@[simp] theorem ne_7_1 : (("two" : Str) = "var") = False := eq_false (by decide +kernel)
@[simp] theorem ne_7_2 : (("two" : Str) = "op") = False := eq_false (by decide +kernel)
@[simp] theorem ne_7_3 : (("two" : Str) = "test") = False := eq_false (by decide +kernel)
@[simp] theorem ne_7_4 : (("two" : Str) = "as") = False := eq_false (by decide +kernel)
@[simp] theorem ne_7_5 : (("two" : Str) = "if") = False := eq_false (by decide +kernel)
@[simp] theorem ne_7_6 : (("two" : Str) = "let") = False := eq_false (by decide +kernel)
@[simp] theorem ne_7_8 : (("two" : Str) = "call") = False := eq_false (by decide +kernel)
@[simp] theorem ne_7_9 : (("two" : Str) = "first") = False := eq_false (by decide +kernel)
@[simp] theorem ne_7_10 : (("two" : Str) = "second") = False := eq_false (by decide +kernel)
@[simp] theorem ne_8_0 : (("call" : Str) = "lit") = False := eq_false (by decide +kernel)
@[simp] theorem ne_8_1 : (("call" : Str) = "var") = False := eq_false (by decide +kernel)
@[simp] theorem ne_8_2 : (("call" : Str) = "op") = False := eq_false (by decide +kernel)
@[simp] theorem ne_8_3 : (("call" : Str) = "test") = False := eq_false (by decide +kernel)
@[simp] theorem ne_8_4 : (("call" : Str) = "as") = False := eq_false (by decide +kernel)
@[simp] theorem ne_8_5 : (("call" : Str) = "if") = False := eq_false (by decide +kernel)
@[simp] theorem ne_8_6 : (("call" : Str) = "let") = False := eq_false (by decide +kernel)
@[simp] theorem ne_8_7 : (("call" : Str) = "two") = False := eq_false (by decide +kernel)
@[simp] theorem ne_8_9 : (("call" : Str) = "first") = False := eq_false (by decide +kernel)
@[simp] theorem ne_8_10 : (("call" : Str) = "second") = False := eq_false (by decide +kernel)
@[simp] theorem ne_9_0 : (("first" : Str) = "lit") = False := eq_false (by decide +kernel)
@[simp] theorem ne_9_1 : (("first" : Str) = "var") = False := eq_false (by decide +kernel)
@[simp] theorem ne_9_2 : (("first" : Str) = "op") = False := eq_false (by decide +kernel)
@[simp] theorem ne_9_3 : (("first" : Str) = "test") = False := eq_false (by decide +kernel)
@[simp] theorem ne_9_4 : (("first" : Str) = "as") = False := eq_false (by decide +kernel)
@[simp] theorem ne_9_5 : (("first" : Str) = "if") = False := eq_false (by decide +kernel)
@[simp] theorem ne_9_6 : (("first" : Str) = "let") = False := eq_false (by decide +kernel)
@[simp] theorem ne_9_7 : (("first" : Str) = "two") = False := eq_false (by decide +kernel)
@[simp] theorem ne_9_8 : (("first" : Str) = "call") = False := eq_false (by decide +kernel)
@[simp] theorem ne_9_10 : (("first" : Str) = "second") = False := eq_false (by decide +kernel)
@[simp] theorem ne_10_0 : (("second" : Str) = "lit") = False := eq_false (by decide +kernel)
@[simp] theorem ne_10_1 : (("second" : Str) = "var") = False := eq_false (by decide +kernel)
@[simp] theorem ne_10_2 : (("second" : Str) = "op") = False := eq_false (by decide +kernel)
@[simp] theorem ne_10_3 : (("second" : Str) = "test") = False := eq_false (by decide +kernel)
@[simp] theorem ne_10_4 : (("second" : Str) = "as") = False := eq_false (by decide +kernel)
@[simp] theorem ne_10_5 : (("second" : Str) = "if") = False := eq_false (by decide +kernel)
@[simp] theorem ne_10_6 : (("second" : Str) = "let") = False := eq_false (by decide +kernel)
@[simp] theorem ne_10_7 : (("second" : Str) = "two") = False := eq_false (by decide +kernel)
@[simp] theorem ne_10_8 : (("second" : Str) = "call") = False := eq_false (by decide +kernel)
@[simp] theorem ne_10_9 : (("second" : Str) = "first") = False := eq_false (by decide +kernel)
@[simp] theorem ne_11_12 : (("+" : Str) = "-") = False := eq_false (by decide +kernel)
@[simp] theorem ne_11_13 : (("+" : Str) = "*") = False := eq_false (by decide +kernel)
@[simp] theorem ne_11_14 : (("+" : Str) = "=") = False := eq_false (by decide +kernel)
@[simp] theorem ne_11_15 : (("+" : Str) = "<") = False := eq_false (by decide +kernel)
@[simp] theorem ne_12_11 : (("-" : Str) = "+") = False := eq_false (by decide +kernel)
@[simp] theorem ne_12_13 : (("-" : Str) = "*") = False := eq_false (by decide +kernel)
@[simp] theorem ne_12_14 : (("-" : Str) = "=") = False := eq_false (by decide +kernel)
@[simp] theorem ne_12_15 : (("-" : Str) = "<") = False := eq_false (by decide +kernel)
@[simp] theorem ne_13_11 : (("*" : Str) = "+") = False := eq_false (by decide +kernel)
@[simp] theorem ne_13_12 : (("*" : Str) = "-") = False := eq_false (by decide +kernel)
@[simp] theorem ne_13_14 : (("*" : Str) = "=") = False := eq_false (by decide +kernel)
@[simp] theorem ne_13_15 : (("*" : Str) = "<") = False := eq_false (by decide +kernel)
@[simp] theorem ne_14_11 : (("=" : Str) = "+") = False := eq_false (by decide +kernel)
@[simp] theorem ne_14_12 : (("=" : Str) = "-") = False := eq_false (by decide +kernel)
@[simp] theorem ne_14_13 : (("=" : Str) = "*") = False := eq_false (by decide +kernel)
@[simp] theorem ne_14_15 : (("=" : Str) = "<") = False := eq_false (by decide +kernel)
@[simp] theorem ne_15_11 : (("<" : Str) = "+") = False := eq_false (by decide +kernel)
@[simp] theorem ne_15_12 : (("<" : Str) = "-") = False := eq_false (by decide +kernel)
@[simp] theorem ne_15_13 : (("<" : Str) = "*") = False := eq_false (by decide +kernel)
@[simp] theorem ne_15_14 : (("<" : Str) = "=") = False := eq_false (by decide +kernel)

/-! ### value_of -/
def Ev (n : Nat) (e : U) (kvs : List (L2.Key × U)) (r : U) : Prop := ∀ (h : Os) (v c : Nat), h[v]? = some (.dic kvs) → wf h = true → (run n).1 3 [e, .ref v, .ref c] h = .ok r h
theorem ev3 {n : Nat} {us : List U} {h : Os} {r : U} (e : toR (b3 (run n).1 (run n).2 (us.map some ++ List.replicate (7 - us.length) none) h) = .ok r h) : (run (n + 1)).1 3 us h = .ok r h := by
  show runDef 7 (b3 _ _) _ _ = _
  unfold runDef
  rw [e, gc_same]
theorem ev_lit {n : Nat} {u m : U} {kvs : List (L2.Key × U)} : Ev (n + 1) (.tup [.str "lit", u, m]) kvs u := fun h v c hv hw => ev3 (by simp [b3])
theorem ev_var {n : Nat} {x : Str} {u : U} {kvs : List (L2.Key × U)} (hl : lookU kvs (.inr x) = some u) : Ev (n + 1) (.tup [.str "var", .str x]) kvs u := fun h v c hv hw => ev3 (by
  have e := opIx_dic (u := .str x) hv rfl hl
  simp [b3, e])
def reck (s : Str) (m a b : Int) : Int := if s = "+" then (a + b) % m else if s = "-" then (a - b) % m else a * b % m
theorem run0 {n : Nat} {s : Str} {m a b : Int} {h : Os} (hm : 0 < m) (hk : mulOk a b = true) : (run (n + 1)).1 0 [.str s, .int m, .int a, .int b] h = .ok (.int (reck s m a b)) h := by
  show runDef 4 (b0 _ _) _ _ = _
  unfold runDef
  have : toR (b0 (run n).1 (run n).2 ([U.str s, .int m, .int a, .int b].map some ++ List.replicate (4 - [U.str s, .int m, .int a, .int b].length) none) h) = .ok (.int (reck s m a b)) h := by
    unfold reck
    by_cases h1 : s = "+"
    · simp [b0, h1, hm]
    · by_cases h2 : s = "-"
      · simp [b0, h2, hm]
      · simp [b0, h1, h2, hm, hk]
  rw [this, gc_same]
theorem run1 {n : Nat} {s : Str} {a b : Int} {h : Os} : (run (n + 1)).1 1 [.str s, .int a, .int b] h = .ok (.int (if s = "=" then (if a = b then 1 else 0) else if a < b then 1 else 0)) h := by
  show runDef 3 (b1 _ _) _ _ = _
  unfold runDef
  have : toR (b1 (run n).1 (run n).2 ([U.str s, .int a, .int b].map some ++ List.replicate (3 - [U.str s, .int a, .int b].length) none) h) = .ok (.int (if s = "=" then (if a = b then 1 else 0) else if a < b then 1 else 0)) h := by
    by_cases h1 : s = "="
    · simp [b1, h1]
    · simp [b1, h1]
  rw [this, gc_same]
section
variable {n : Nat} {e1 e2 e3 : U} {kvs : List (L2.Key × U)} {a b m : Int} {u w : U} {s y : Str}
theorem ev_op (hm : 0 < m) (hk : mulOk a b = true) (h1 : Ev (n + 1) e1 kvs (.int a)) (h2 : Ev (n + 1) e2 kvs (.int b)) : Ev (n + 2) (.tup [.str "op", .str s, .int m, e1, e2]) kvs (.int (reck s m a b)) := fun h v c hv hw => ev3 (by
  have q1 := h1 h v c hv hw
  have q2 := h2 h v c hv hw
  have q3 := run0 (n := n) (s := s) (h := h) hm hk
  simp [b3, q1, q2, q3])
theorem ev_test (h1 : Ev (n + 1) e1 kvs (.int a)) (h2 : Ev (n + 1) e2 kvs (.int b)) : Ev (n + 2) (.tup [.str "test", .str s, e1, e2]) kvs (.int (if s = "=" then (if a = b then 1 else 0) else if a < b then 1 else 0)) := fun h v c hv hw => ev3 (by
  have q1 := h1 h v c hv hw
  have q2 := h2 h v c hv hw
  have q3 := run1 (n := n) (s := s) (h := h) (a := a) (b := b)
  simp [b3, q1, q2, q3])
theorem ev_as (hm : 0 < m) (h1 : Ev n e1 kvs (.int a)) : Ev (n + 1) (.tup [.str "as", .int m, e1]) kvs (.int (a % m)) := fun h v c hv hw => ev3 (by
  have q1 := h1 h v c hv hw
  simp [b3, q1, hm])
theorem ev_if1 (h1 : Ev n e1 kvs (.int 1)) (h2 : Ev n e2 kvs u) : Ev (n + 1) (.tup [.str "if", e1, e2, e3]) kvs u := fun h v c hv hw => ev3 (by
  have q1 := h1 h v c hv hw
  have q2 := h2 h v c hv hw
  simp [b3, q1, q2])
theorem ev_if0 (h1 : Ev n e1 kvs (.int 0)) (h2 : Ev n e3 kvs u) : Ev (n + 1) (.tup [.str "if", e1, e2, e3]) kvs u := fun h v c hv hw => ev3 (by
  have q1 := h1 h v c hv hw
  have q2 := h2 h v c hv hw
  simp [b3, q1, q2])
theorem ev_two (h1 : Ev n e1 kvs u) (h2 : Ev n e2 kvs w) : Ev (n + 1) (.tup [.str "two", e1, e2]) kvs (.tup [u, w]) := fun h v c hv hw => ev3 (by
  have q1 := h1 h v c hv hw
  have q2 := h2 h v c hv hw
  simp [b3, q1, q2])
theorem ev_first (h1 : Ev n e1 kvs (.tup [u, w])) : Ev (n + 1) (.tup [.str "first", e1]) kvs u := fun h v c hv hw => ev3 (by
  have q1 := h1 h v c hv hw
  simp [b3, q1])
theorem ev_second (h1 : Ev n e1 kvs (.tup [u, w])) : Ev (n + 1) (.tup [.str "second", e1]) kvs w := fun h v c hv hw => ev3 (by
  have q1 := h1 h v c hv hw
  simp [b3, q1])
theorem ev_let (hk : kvs.length < 100000) (hu : ∀ n, U.bd n u = true) (hr : ∀ n, U.bd n w = true) (h1 : Ev n e1 kvs u) (h2 : Ev n e2 (putU kvs (.inr y) u) w) : Ev (n + 2) (.tup [.str "let", .str y, e1, e2]) kvs w := fun h v c hv hw => ev3 (by
  have hlen : v < h.length := (List.getElem?_eq_some_iff.mp hv).1
  have hb := wf_get hw hv
  have hw1 : wf (h ++ [.dic kvs]) = true := wf_snoc hw (O.bd_mono (by omega) hb)
  have hv1 : (h ++ [.dic kvs] : Os)[v]? = some (.dic kvs) := by rw [List.getElem?_append_left hlen]; exact hv
  have hn1 : (h ++ [.dic kvs] : Os)[h.length]? = some (.dic kvs) := by simp
  have q1 := h1 _ v c hv1 hw1
  have p1 := kPut3_dic (v := u) (u := .str y) (ρ := [some (.tup [.str "let", .str y, e1, e2]), some (.ref v), some (.ref c), some (.ref h.length)]) hn1 rfl hk
  have hd : O.bd (h.length + 1) (.dic (putU kvs (.inr y) u)) = true := by
    have hb1 : O.bd (h.length + 1) (.dic kvs) = true := O.bd_mono (by omega) hb
    show (putU kvs (.inr y) u).all _ = true
    have hb1 : kvs.all (fun p => U.bd (h.length + 1) p.2) = true := hb1
    unfold putU
    split
    · rw [List.all_map, List.all_eq_true]
      intro p hp
      show U.bd _ (if p.1 = _ then (p.1, u) else p).2 = true
      split
      · exact hu _
      · exact List.all_eq_true.mp hb1 p hp
    · rw [List.all_append, hb1]
      simp [hu]
  have es : (h ++ [.dic kvs] : Os).set h.length (.dic (putU kvs (.inr y) u)) = h ++ [.dic (putU kvs (.inr y) u)] := by simp
  rw [es] at p1
  have hw2 : wf (h ++ [.dic (putU kvs (.inr y) u)]) = true := wf_snoc hw hd
  have q2 := h2 (h ++ [.dic (putU kvs (.inr y) u)]) h.length c (by simp) hw2
  have q3 : (run (n + 1)).1 2 [.tup [.str "let", .str y, e1, e2], .ref v, .ref c] h = .ok w h := by
    show runDef 4 (b2 _ _) _ _ = _
    unfold runDef
    have bd := bDict_dic hv
    have : toR (b2 (run n).1 (run n).2 ([.tup [.str "let", .str y, e1, e2], .ref v, .ref c].map some ++ List.replicate (4 - [U.tup [.str "let", .str y, e1, e2], .ref v, .ref c].length) none) h) = .ok w (h ++ [.dic (putU kvs (.inr y) u)]) := by
      simp [b2, bd, q1, p1, q2]
    rw [this]
    exact gc_cut rfl hw (hr _)
  simp [b3, q3])
end
end K71
namespace K71
open PySem SD
theorem al_int {n : Nat} {f d : Int} {h : Os} : (run (n + 2)).1 6 [.int f, .int d] h = .ok (.bl (decide (f = d))) h := by
  have q5 : (run (n + 1)).1 5 [.int f] h = .ok (.bl true) h := by
    show runDef 1 (b5 (run n).1 (run n).2) [U.int f] h = _
    unfold runDef
    have : toR (b5 (run n).1 (run n).2 ([U.int f].map some ++ List.replicate (1 - [U.int f].length) none) h) = .ok (.bl true) h := by simp [b5]
    rw [this, gc_same]
  show runDef 4 (b6 _ _) _ _ = _
  unfold runDef
  have : toR (b6 (run (n + 1)).1 (run (n + 1)).2 ([U.int f, .int d].map some ++ List.replicate (4 - [U.int f, .int d].length) none) h) = .ok (.bl (decide (f = d))) h := by simp [b6, q5]
  rw [this, gc_same]
theorem al_tup {n : Nat} {us : List U} {h : Os} (hw : wf h = true) (hl : us.length ≤ 1000) (hu : ∀ u ∈ us, (run n).1 6 [u, u] h = .ok (.bl true) h) : (run (n + 1)).1 6 [.tup us, .tup us] h = .ok (.bl true) h := by
  show runDef 4 (b6 _ _) _ _ = _
  unfold runDef
  have z : ∀ us : List U, zipU us us = us.map fun u => .tup [u, u] := fun us => by
    induction us with
    | nil => rfl
    | cons u us ih => simp [zipU, ih]
  have e1 : goLc (gTL [gN 2, gN 3]) mYes (mCall 2 ((run n).1 6) (mCons (mVar 2) (mCons (mVar 3) mNil))) [] [some (.tup us), some (.tup us), none, none] (zipU us us) h [] = .ok (List.replicate us.length (.bl true)) h := by
    rw [z]
    have := goLc_rel (gm := gTL [gN 2, gN 3]) (f := mCall 2 ((run n).1 6) (mCons (mVar 2) (mCons (mVar 3) mNil))) (gd := []) (ρ := [some (.tup us), some (.tup us), none, none]) (h := h) (us := us.map fun u => .tup [u, u]) (rs := List.replicate us.length (.bl true)) (acc := []) (by simp) (fun i u r e1 e2 => ?_) (by simp; omega) rfl
    · simpa using this
    · rw [List.getElem?_map] at e1
      obtain ⟨x, e3, e4⟩ := Option.map_eq_some_iff.mp e1
      subst e4
      have er : r = .bl true := by
        have := List.mem_of_getElem? e2
        simpa using (List.mem_replicate.mp this).2
      subst er
      have q := hu x (List.mem_of_getElem? e3)
      exact ⟨[some (.tup us), some (.tup us), some x, some x], rfl, by simp [q]⟩
  have e2 := bAll_true (h := h ++ [.lst (List.replicate us.length (.bl true))]) (i := h.length) (n := us.length) (by simp)
  have : toR (b6 (run n).1 (run n).2 ([U.tup us, .tup us].map some ++ List.replicate (4 - [U.tup us, .tup us].length) none) h) = .ok (.bl true) (h ++ [.lst (List.replicate us.length (.bl true))]) := by
    simp [b6, e1, e2]
  rw [this]
  exact gc_cut rfl hw rfl
theorem ev_side {n : Nat} {c v m : Int} {x : Str} {h : Os} : (run (n + 1)).1 8 [.int c, .str x, .int v, .int m] h = .ok (if c % 2 = 0 then .tup [.str "lit", .int v, .int m] else .tup [.str "var", .str x]) h := by
  show runDef 4 (b8 _ _) _ _ = _
  unfold runDef
  have : toR (b8 (run n).1 (run n).2 ([U.int c, .str x, .int v, .int m].map some ++ List.replicate (4 - [U.int c, .str x, .int v, .int m].length) none) h) = .ok (if c % 2 = 0 then .tup [.str "lit", .int v, .int m] else .tup [.str "var", .str x]) h := by
    by_cases h1 : c % 2 = 0 <;> simp [b8, h1]
  rw [this, gc_same]
def pr (x y : U) : U := .tup [x, y]
def rec5 (one other : U) (a b m : Int) : List U :=
  [pr (.tup [.str "op", .str "+", .int m, one, other]) (.int ((a + b) % m)), pr (.tup [.str "op", .str "-", .int m, one, other]) (.int ((a - b) % m)), pr (.tup [.str "op", .str "*", .int m, one, other]) (.int (a * b % m)),
   pr (.tup [.str "test", .str "=", one, other]) (.int (if a = b then 1 else 0)), pr (.tup [.str "test", .str "<", one, other]) (.int (if a < b then 1 else 0))]
theorem ev_rec {n : Nat} {one other : U} {a b m : Int} {h : Os} (hw : wf h = true) (h1 : ∀ k, U.bd k one = true) (h2 : ∀ k, U.bd k other = true) (hm : 0 < m) (hk : mulOk a b = true) : (run (n + 1)).1 10 [one, other, .int a, .int b, .int m] h = .ok (.ref h.length) (h ++ [.lst (rec5 one other a b m)]) := by
  show runDef 5 (b10 _ _) _ _ = _
  unfold runDef
  have : toR (b10 (run n).1 (run n).2 ([one, other, .int a, .int b, .int m].map some ++ List.replicate (5 - [one, other, .int a, .int b, .int m].length) none) h) = .ok (.ref (h.length + 0)) (h ++ [.lst (rec5 one other a b m)]) := by
    simp [b10, hm, hk, rec5, pr]
  rw [this]
  refine gc_new rfl hw rfl ?_
  simp [O.bd, U.bds, U.bd, rec5, pr, h1, h2]
def cas (x y z w : Str) (one other : U) (a b l : Int) : List U :=
  [pr (.tup [.str "lit", .int a, .int (a + 1)]) (.int a), pr (.tup [.str "var", .str y]) (.int b), pr (.tup [.str "var", .str z]) (.tup [.int a, .int b]), pr (.tup [.str "as", .int l, one]) (.int (a % l)),
   pr (.tup [.str "if", .tup [.str "lit", .int 1, .int 2], one, other]) (.int a), pr (.tup [.str "if", .tup [.str "lit", .int 0, .int 2], one, other]) (.int b),
   pr (.tup [.str "let", .str y, one, .tup [.str "two", .tup [.str "var", .str y], .tup [.str "var", .str x]]]) (.tup [.int a, .int a]),
   pr (.tup [.str "let", .str w, other, .tup [.str "two", .tup [.str "var", .str w], .tup [.str "var", .str z]]]) (.tup [.int b, .tup [.int a, .int b]]),
   pr (.tup [.str "two", one, other]) (.tup [.int a, .int b]), pr (.tup [.str "first", .tup [.str "two", one, other]]) (.int a), pr (.tup [.str "second", .tup [.str "two", one, other]]) (.int b), pr (.tup [.str "second", .tup [.str "var", .str z]]) (.int b)]
theorem ev_cas {n : Nat} {x y z w : Str} {one other : U} {a b l : Int} {h : Os} {i : Nat} (hi : h[i]? = some (.lst [.str x, .str y, .str z, .str w])) (hw : wf h = true) (h1 : ∀ k, U.bd k one = true) (h2 : ∀ k, U.bd k other = true) (hm : 0 < l) : (run (n + 1)).1 11 [.ref i, one, other, .int a, .int b, .int l] h = .ok (.ref h.length) (h ++ [.lst (cas x y z w one other a b l)]) := by
  show runDef 11 (b11 _ _) _ _ = _
  unfold runDef
  have : toR (b11 (run n).1 (run n).2 ([.ref i, one, other, .int a, .int b, .int l].map some ++ List.replicate (11 - [.ref i, one, other, .int a, .int b, .int l].length) none) h) = .ok (.ref (h.length + 0)) (h ++ [.lst (cas x y z w one other a b l)]) := by
    have g := gTL_ref (l := [gN 6, gN 7, gN 8, gN 9]) (ρ := [some (.ref i), some one, some other, some (.int a), some (.int b), some (.int l), none, none, none, none, none]) hi rfl
    simp [b11, g, hm, cas, pr]
  rw [this]
  refine gc_new rfl hw rfl ?_
  simp [O.bd, U.bds, U.bd, cas, pr, h1, h2]
/-- what holds of the cases -/
def Cs (kvs : List (L2.Key × U)) (p : U) : Prop := ∃ e d, p = pr e d ∧ (∀ n, Ev (n + 6) e kvs d) ∧ (∀ k, U.bd k d = true) ∧ ∀ n h, wf h = true → (run (n + 6)).1 6 [d, d] h = .ok (.bl true) h
theorem cs_int {kvs : List (L2.Key × U)} {e : U} {d : Int} (h : ∀ n, Ev (n + 6) e kvs (.int d)) : Cs kvs (pr e (.int d)) := ⟨e, .int d, rfl, h, fun _ => rfl, fun n h _ => by rw [al_int]; simp⟩
theorem ok_int {n : Nat} {d : Int} {h : Os} : (run (n + 2)).1 6 [.int d, .int d] h = .ok (.bl true) h := by rw [al_int]; simp
theorem ok_two {n : Nat} {a b : Int} {h : Os} (hw : wf h = true) : (run (n + 3)).1 6 [.tup [.int a, .int b], .tup [.int a, .int b]] h = .ok (.bl true) h := al_tup hw (by simp) fun u hu => by
  rcases List.mem_cons.mp hu with e | hu
  · subst e; exact ok_int
  · rw [List.mem_singleton.mp hu]; exact ok_int
theorem cs_two {kvs : List (L2.Key × U)} {e : U} {a b : Int} (h : ∀ n, Ev (n + 6) e kvs (.tup [.int a, .int b])) : Cs kvs (pr e (.tup [.int a, .int b])) := ⟨e, _, rfl, h, fun _ => rfl, fun n h hw => ok_two hw⟩
theorem cs_all {kvs : List (L2.Key × U)} {x y z w : Str} {one other : U} {a b l m : Int} (hm : 0 < m) (hl : 0 < l) (hk : mulOk a b = true) (h1 : ∀ n, Ev (n + 1) one kvs (.int a)) (h2 : ∀ n, Ev (n + 1) other kvs (.int b))
    (hy : lookU kvs (.inr y) = some (.int b)) (hz : lookU kvs (.inr z) = some (.tup [.int a, .int b])) (hx : ∀ u, lookU (putU kvs (.inr y) u) (.inr x) = some (.int a)) (hyy : ∀ u, lookU (putU kvs (.inr y) u) (.inr y) = some u) (hww : ∀ u, lookU (putU kvs (.inr w) u) (.inr w) = some u) (hwz : ∀ u, lookU (putU kvs (.inr w) u) (.inr z) = some (.tup [.int a, .int b])) (hlen : kvs.length < 100000) :
    ∀ p ∈ rec5 one other a b m ++ cas x y z w one other a b l, Cs kvs p := by
  have v : ∀ {n x u} {kvs : List (L2.Key × U)}, lookU kvs (.inr x) = some u → Ev (n + 1) (.tup [.str "var", .str x]) kvs u := fun h => ev_var h
  intro p hp
  simp only [rec5, cas, List.mem_append, List.mem_cons, List.not_mem_nil, or_false, List.cons_append, List.nil_append] at hp
  rcases hp with e | e | e | e | e | e | e | e | e | e | e | e | e | e | e | e | e <;> subst e
  · exact cs_int fun n => ev_op (n := n + 4) (s := "+") hm hk (h1 _) (h2 _)
  · exact cs_int fun n => by have := ev_op (n := n + 4) (s := "-") hm hk (h1 _) (h2 _); simpa [reck] using this
  · exact cs_int fun n => by have := ev_op (n := n + 4) (s := "*") hm hk (h1 _) (h2 _); simpa [reck] using this
  · exact cs_int fun n => by have := ev_test (n := n + 4) (s := "=") (h1 _) (h2 _); simpa using this
  · exact cs_int fun n => by have := ev_test (n := n + 4) (s := "<") (h1 _) (h2 _); simpa using this
  · exact cs_int fun n => ev_lit
  · exact cs_int fun n => v hy
  · exact cs_two fun n => v hz
  · exact cs_int fun n => ev_as hl (h1 _)
  · exact cs_int fun n => ev_if1 ev_lit (h1 _)
  · exact cs_int fun n => ev_if0 ev_lit (h2 _)
  · exact cs_two fun n => ev_let (n := n + 4) hlen (fun _ => rfl) (fun _ => rfl) (h1 _) (ev_two (v (hyy _)) (v (hx _)))
  · refine ⟨_, _, rfl, fun n => ev_let (n := n + 4) hlen (fun _ => rfl) (fun _ => rfl) (h2 _) (ev_two (v (hww _)) (v (hwz _))), fun _ => rfl, fun n h hw => al_tup hw (by simp) fun u hu => ?_⟩
    rcases List.mem_cons.mp hu with e | hu
    · subst e; exact ok_int
    · rw [List.mem_singleton.mp hu]; exact ok_two hw
  · exact cs_two fun n => ev_two (h1 _) (h2 _)
  · exact cs_int fun n => ev_first (ev_two (h1 _) (h2 _))
  · exact cs_int fun n => ev_second (ev_two (h1 _) (h2 _))
  · exact cs_int fun n => ev_second (v hz)
end K71
namespace K71
open PySem SD
structure Cell (R : Nat → FnU) (S : U) (c : Nat → Int) : Prop where
  c0 : ∀ h, R 4 [S, .int 0] h = .ok (.int (c 0)) h
  c1 : ∀ h, R 4 [S, .int 1] h = .ok (.int (c 1)) h
  c2 : ∀ h, R 4 [S, .int 2] h = .ok (.int (c 2)) h
  c3 : ∀ h, R 4 [S, .int 3] h = .ok (.int (c 3)) h
  c4 : ∀ h, R 4 [S, .int 4] h = .ok (.int (c 4)) h
  c5 : ∀ h, R 4 [S, .int 5] h = .ok (.int (c 5)) h
  c6 : ∀ h, R 4 [S, .int 6] h = .ok (.int (c 6)) h
  c7 : ∀ h, R 4 [S, .int 7] h = .ok (.int (c 7)) h
  c8 : ∀ h, R 4 [S, .int 8] h = .ok (.int (c 8)) h
  c9 : ∀ h, R 4 [S, .int 9] h = .ok (.int (c 9)) h
theorem pow18 (h : Os) : opPow (.int 10) (.int 18) h = .ok (.int 1000000000000000000) h := by
  have e : powOk 10 18 = true := by decide +kernel
  unfold opPow opI
  simp [e]
section
variable {R : Nat → FnU} {RC : Nat → CloU} {S : U} {c : Nat → Int}
/-- up to the words -/
theorem st0 (C : Cell R S c) : ∃ many less a b : Int, 0 < many ∧ many ≤ 10 ^ 18 ∧ 0 < less ∧ 0 ≤ a ∧ a < many ∧ 0 ≤ b ∧ b < many ∧
    b12 R RC (some S :: List.replicate 19 none) [] = b12_5 R RC (some S :: some (.int many) :: some (.int less) :: some (.int a) :: some (.int b) :: List.replicate 15 none) [] := by
  obtain ⟨many, hm⟩ : ∃ m, m = 1 + c 0 % 1000000000000000000 := ⟨_, rfl⟩
  have hm0 : 0 < many := by omega
  obtain ⟨less, hl⟩ : ∃ m, m = 1 + c 1 % many := ⟨_, rfl⟩
  have hl0 : 0 < less := by have := Int.emod_nonneg (c 1) (Int.ne_of_gt hm0); omega
  obtain ⟨a, ha⟩ : ∃ m, m = c 2 % many := ⟨_, rfl⟩
  obtain ⟨b, hb⟩ : ∃ m, m = c 3 % many := ⟨_, rfl⟩
  have ha0 : 0 ≤ a ∧ a < many := by rw [ha]; exact ⟨Int.emod_nonneg _ (by omega), Int.emod_lt_of_pos _ hm0⟩
  have hb0 : 0 ≤ b ∧ b < many := by rw [hb]; exact ⟨Int.emod_nonneg _ (by omega), Int.emod_lt_of_pos _ hm0⟩
  have e1 : b12 R RC (some S :: List.replicate 19 none) [] = b12_4 R RC (some S :: some (.int many) :: some (.int less) :: some (.int a) :: some (.int b) :: List.replicate 15 none) [] := by
    simp [b12, b12_1, b12_2, b12_3, List.replicate, C.c0, C.c1, C.c2, C.c3, pow18, ← hm, hm0, ← hl, ← ha, ← hb]
  by_cases h4 : c 4 % 3 = 0
  · refine ⟨many, less, a, a, hm0, by omega, hl0, ha0.1, ha0.2, ha0.1, ha0.2, ?_⟩
    rw [e1]
    simp [b12_4, List.replicate, C.c4, h4]
  · refine ⟨many, less, a, b, hm0, by omega, hl0, ha0.1, ha0.2, hb0.1, hb0.2, ?_⟩
    rw [e1]
    simp [b12_4, List.replicate, C.c4, h4]
/-- the values of the law, behind its case list -/
structure Vals1 (many less a b : Int) (x y z w : Str) (one other : U) : Prop where
  m0 : 0 < many
  m1 : many ≤ 10 ^ 18
  l0 : 0 < less
  a0 : 0 ≤ a
  a1 : a < many
  b0 : 0 ≤ b
  b1 : b < many
  nd : [x, y, z, w].Nodup
  o1 : one = .tup [.str "lit", .int a, .int many] ∨ one = .tup [.str "var", .str x]
  o2 : other = .tup [.str "lit", .int b, .int many] ∨ other = .tup [.str "var", .str y]
def dc (x y z : Str) (a b : Int) : List (L2.Key × U) := [(.inr x, .int a), (.inr y, .int b), (.inr z, .tup [.int a, .int b])]
def hp (x y z w : Str) (a b : Int) : Os := [.lst [.str x, .str y, .str z, .str w], .dic (dc x y z a b), .dic (dc x y z a b), .lst [], .lst [.int b, .tup [.int b, .int a]]]
theorem st5 {n : Nat} (C : Cell (run (n + 2)).1 S c) {many less a b : Int} (h0 : 0 < many) (h1 : many ≤ 10 ^ 18) (h2 : 0 < less) (h3 : 0 ≤ a) (h4 : a < many) (h5 : 0 ≤ b) (h6 : b < many) : ∃ x y z w one other reply, Vals1 many less a b x y z w one other ∧ (reply = .int b ∨ reply = .tup [.int b, .int a]) ∧
    b12_5 (run (n + 2)).1 RC (some S :: some (.int many) :: some (.int less) :: some (.int a) :: some (.int b) :: List.replicate 15 none) [] =
      b12_12 (run (n + 2)).1 RC (some S :: some (.int many) :: some (.int less) :: some (.int a) :: some (.int b) :: some (.ref 0) :: some one :: some other :: some (.ref 1) :: some (.ref 2) :: some (.ref 3) :: some reply :: List.replicate 8 none) (hp x y z w a b) := by
  obtain ⟨ws, hl, nd, _, ew⟩ := ev_words (n + 1) (c 5) 4 (by omega) [] rfl
  match ws, hl with
  | [x, y, z, w], _ =>
  have nd' := nd
  simp only [List.nodup_cons, List.mem_cons, List.not_mem_nil, or_false, not_or] at nd'
  obtain ⟨⟨xy, xz, xw⟩, ⟨yz, yw⟩, zw, _⟩ := nd'
  have e0 : opIx (.ref 0) (.int 0) [.lst [.str x, .str y, .str z, .str w]] = .ok (.str x) [.lst [.str x, .str y, .str z, .str w]] := opIx_lst (k := 0) rfl rfl
  have e1 : opIx (.ref 0) (.int 1) [.lst [.str x, .str y, .str z, .str w]] = .ok (.str y) [.lst [.str x, .str y, .str z, .str w]] := opIx_lst (k := 1) rfl rfl
  have e2 : opIx (.ref 0) (.int 2) [.lst [.str x, .str y, .str z, .str w]] = .ok (.str z) [.lst [.str x, .str y, .str z, .str w]] := opIx_lst (k := 2) rfl rfl
  have s1 := fun h => ev_side (n := n + 1) (c := c 6) (v := a) (m := many) (x := x) (h := h)
  have s2 := fun h => ev_side (n := n + 1) (c := c 6 / 2) (v := b) (m := many) (x := y) (h := h)
  obtain ⟨one, ho⟩ : ∃ u, u = if c 6 % 2 = 0 then U.tup [.str "lit", .int a, .int many] else .tup [.str "var", .str x] := ⟨_, rfl⟩
  obtain ⟨other, ho2⟩ : ∃ u, u = if c 6 / 2 % 2 = 0 then U.tup [.str "lit", .int b, .int many] else .tup [.str "var", .str y] := ⟨_, rfl⟩
  rw [← ho] at s1
  rw [← ho2] at s2
  have V : Vals1 many less a b x y z w one other := ⟨h0, h1, h2, h3, h4, h5, h6, nd, by rw [ho]; split <;> simp, by rw [ho2]; split <;> simp⟩
  have d2 : divOk (c 6) 2 = true := div_ok (by decide +kernel)
  simp only [List.nil_append, List.map_cons, List.map_nil, List.length_nil] at ew
  have ew : (run (n + 2)).1 7 [.int (c 5), .int 4] [] = .ok (.ref 0) [.lst [.str x, .str y, .str z, .str w]] := ew
  have p1 : b12_5 (run (n + 2)).1 RC (some S :: some (.int many) :: some (.int less) :: some (.int a) :: some (.int b) :: List.replicate 15 none) [] = b12_8 (run (n + 2)).1 RC (some S :: some (.int many) :: some (.int less) :: some (.int a) :: some (.int b) :: some (.ref 0) :: some one :: some other :: List.replicate 12 none) [.lst [.str x, .str y, .str z, .str w]] := by
    simp [b12_5, b12_6, b12_7, List.replicate, C.c5, C.c6, ew, e0, e1, s1, s2, d2]
  have p2 : b12_8 (run (n + 2)).1 RC (some S :: some (.int many) :: some (.int less) :: some (.int a) :: some (.int b) :: some (.ref 0) :: some one :: some other :: List.replicate 12 none) [.lst [.str x, .str y, .str z, .str w]] =
      b12_9 (run (n + 2)).1 RC (some S :: some (.int many) :: some (.int less) :: some (.int a) :: some (.int b) :: some (.ref 0) :: some one :: some other :: some (.ref 1) :: List.replicate 11 none) [.lst [.str x, .str y, .str z, .str w], .dic (dc x y z a b)] := by
    have : mDisp [((mBin opIx (mVar 5) (mC (.int 0))), (mVar 3)), ((mBin opIx (mVar 5) (mC (.int 1))), (mVar 4)), ((mBin opIx (mVar 5) (mC (.int 2))), (mTup (mCons (mVar 3) (mCons (mVar 4) mNil))))] (some S :: some (.int many) :: some (.int less) :: some (.int a) :: some (.int b) :: some (.ref 0) :: some one :: some other :: List.replicate 12 none) [.lst [.str x, .str y, .str z, .str w]] = .ok (.ref 1) [.lst [.str x, .str y, .str z, .str w], .dic (dc x y z a b)] := by
      unfold mDisp
      simp [mPairs, Rs.bind, List.replicate, e0, e1, e2, keysU, mergeU, putU, dc, xy, xz, yz]
    simp only [List.replicate] at this ⊢
    simp [b12_8, this]
  have bd := bDict_dic (h := [.lst [.str x, .str y, .str z, .str w], .dic (dc x y z a b)]) (i := 1) (ks := dc x y z a b) rfl
  obtain ⟨reply, hr, er⟩ : ∃ reply : U, (reply = .int b ∨ reply = .tup [.int b, .int a]) ∧ opIx (.ref 4) (.int (c 7 % 2)) (hp x y z w a b) = .ok reply (hp x y z w a b) := by
    rcases (show c 7 % 2 = 0 ∨ c 7 % 2 = 1 by omega) with e | e
    · exact ⟨.int b, .inl rfl, by rw [e]; exact opIx_lst (k := 0) rfl rfl⟩
    · exact ⟨.tup [.int b, .int a], .inr rfl, by rw [e]; exact opIx_lst (k := 1) rfl rfl⟩
  refine ⟨x, y, z, w, one, other, reply, V, hr, ?_⟩
  rw [p1, p2]
  unfold hp at er ⊢
  simp [b12_9, b12_10, b12_11, List.replicate, bd, C.c7, er]
end
end K71
namespace K71
open PySem SD
theorem run9 {n i : Nat} {u r : U} {xs : List U} {h : Os} (e : h[i]? = some (.lst xs)) (hl : xs.length < 100000) : (run (n + 1)).1 9 [.ref i, u, r] h = .ok r (h.set i (.lst (xs ++ [u]))) := by
  show runDef 3 (b9 (run n).1 (run n).2) [.ref i, u, r] h = _
  unfold runDef
  have b := bAppend_ok (u := u) e hl
  have t := isTy_lst e
  have : toR (b9 (run n).1 (run n).2 ([.ref i, u, r].map some ++ List.replicate (3 - [U.ref i, u, r].length) none) h) = .ok r (h.set i (.lst (xs ++ [u]))) := by simp [b9, b, t]
  rw [this]
  exact gc_len (by simp)
theorem clo1 {n i : Nat} {p q v r : U} {h : Os} (e : h[i]? = some (.lst [])) : (run (n + 2)).2 1 [.ref i, r] [p, q, v] h = .ok r (h.set i (.lst [.tup [p, q, v]])) := by
  show runLam 5 (c1 (run (n + 1)).1 (run (n + 1)).2) [.ref i, r] [p, q, v] h = _
  unfold runLam
  have q9 := run9 (n := n) (u := .tup [p, q, v]) (r := r) e (by simp)
  have : c1 (run (n + 1)).1 (run (n + 1)).2 ([p, q, v].map some ++ (([.ref i, r] : List U).map some ++ List.replicate (5 - [p, q, v].length - ([.ref i, r] : List U).length) none)) h = .ok r (h.set i (.lst [.tup [p, q, v]])) := by simp [c1, q9]
  rw [this]
  exact gc_len (by simp)
theorem ev_call {n v c hd : Nat} {h : Os} {kvs : List (L2.Key × U)} {es vs : List U} {p q r : U} (hv : h[v]? = some (.dic kvs)) (hc : h[c]? = some (.clo 1 [.ref hd, r])) (hh : h[hd]? = some (.lst [])) (hw : wf h = true) (hl : es.length = vs.length) (h4 : es.length ≤ 4)
    (ev : ∀ (i : Nat) (e u : U), es[i]? = some e → vs[i]? = some u → Ev (n + 2) e kvs u) : (run (n + 3)).1 3 [.tup [.str "call", p, q, .tup es], .ref v, .ref c] h = .ok r (h.set hd (.lst [.tup [p, q, .ref h.length]]) ++ [.lst vs]) := by
  show runDef 7 (b3 (run (n + 2)).1 (run (n + 2)).2) [.tup [.str "call", p, q, .tup es], .ref v, .ref c] h = _
  unfold runDef
  have hdl : hd < h.length := (List.getElem?_eq_some_iff.mp hh).1
  have hcl : c < h.length := (List.getElem?_eq_some_iff.mp hc).1
  have e1 : goLc (gN 6) mYes (mCall 3 ((run (n + 2)).1 3) (mCons (mVar 6) (mCons (mVar 1) (mCons (mVar 2) mNil)))) [] [some (.tup [.str "call", p, q, .tup es]), some (.ref v), some (.ref c), some (.str "call"), none, none, none] es h [] = .ok vs h := by
    have := goLc_rel (gm := gN 6) (f := mCall 3 ((run (n + 2)).1 3) (mCons (mVar 6) (mCons (mVar 1) (mCons (mVar 2) mNil)))) (gd := []) (ρ := [some (.tup [.str "call", p, q, .tup es]), some (.ref v), some (.ref c), some (.str "call"), none, none, none]) (h := h) (us := es) (rs := vs) (acc := []) hl (fun i u r e1 e2 => ?_) (by simp; omega) rfl
    · simpa using this
    · have q := ev i u r e1 e2 h v c hv hw
      exact ⟨_, rfl, by simp [q]⟩
  have i1 : isClo h c = some (1, [.ref hd, r]) := by unfold isClo; rw [hc]
  have i2 : isClo (h ++ [.lst vs]) c = some (1, [.ref hd, r]) := by unfold isClo; rw [List.getElem?_append_left hcl, hc]
  have hh2 : (h ++ [.lst vs] : Os)[hd]? = some (.lst []) := by rw [List.getElem?_append_left hdl, hh]
  have hk : (kill (h ++ [.lst vs]))[hd]? = some (.lst []) := by unfold kill; rw [List.getElem?_map, hh2]; rfl
  have e2 : mClo 2 (run (n + 2)).2 (npOf tb) (mCons (mBin opIx (mVar 0) (mC (.int 1))) (mCons (mBin opIx (mVar 0) (mC (.int 2))) (mCons (mVar 5) mNil))) [some (.tup [.str "call", p, q, .tup es]), some (.ref v), some (.ref c), some (.str "call"), none, some (.ref h.length), none] (h ++ [.lst vs]) = .ok r ((h ++ [.lst vs] : Os).set hd (.lst [.tup [p, q, .ref h.length]])) := by
    refine (mClo_of (us := [p, q, .ref h.length]) (h1 := h ++ [.lst vs]) (n := c) (i := 2) (id := 1) (caps := [.ref hd, r]) (np := npOf tb) rfl i2 (by simp) i2 rfl).trans ?_
    rw [clo1 (n := n) hk]
    show Rs.ok r (zipBack _ _) = _
    rw [zipBack_set fun id caps z => by rw [hh2] at z; cases z]
  have : toR (b3 (run (n + 2)).1 (run (n + 2)).2 ([.tup [.str "call", p, q, .tup es], .ref v, .ref c].map some ++ List.replicate (7 - [U.tup [.str "call", p, q, .tup es], .ref v, .ref c].length) none) h) = .ok r ((h ++ [.lst vs] : Os).set hd (.lst [.tup [p, q, .ref h.length]])) := by
    simp [b3, e1, e2]
  rw [this]
  have es2 : (h ++ [.lst vs] : Os).set hd (.lst [.tup [p, q, .ref h.length]]) = h.set hd (.lst [.tup [p, q, .ref h.length]]) ++ [.lst vs] := by rw [List.set_append_left _ _ hdl]
  rw [es2]
  refine gc_keep ?_
  have : (h.set hd (.lst [.tup [p, q, .ref h.length]]) ++ [.lst vs] : Os).take h.length = h.set hd (.lst [.tup [p, q, .ref h.length]]) := by
    have := List.take_left (l₁ := h.set hd (.lst [.tup [p, q, .ref h.length]])) (l₂ := [O.lst vs])
    simpa using this
  rw [this, List.all_eq_false]
  refine ⟨.lst [.tup [p, q, .ref h.length]], ?_, ?_⟩
  · exact List.mem_of_getElem? (i := hd) (by simp [hdl])
  · simp [O.bd, U.bds, U.bd]
end K71
namespace K71
open PySem SD
section
variable {RC : Nat → CloU} {S : U} {c : Nat → Int} {many less a b : Int} {x y z w : Str} {one other reply : U}
theorem Vals1.ne (V : Vals1 many less a b x y z w one other) : x ≠ y ∧ x ≠ z ∧ x ≠ w ∧ y ≠ z ∧ y ≠ w ∧ z ≠ w := by
  have nd := V.nd
  simp only [List.nodup_cons, List.mem_cons, List.not_mem_nil, or_false, not_or] at nd
  obtain ⟨⟨xy, xz, xw⟩, ⟨yz, yw⟩, zw, _⟩ := nd
  exact ⟨xy, xz, xw, yz, yw, zw⟩
theorem Vals1.e1 (V : Vals1 many less a b x y z w one other) (n : Nat) : Ev (n + 1) one (dc x y z a b) (.int a) := by
  rcases V.o1 with e | e <;> rw [e]
  · exact ev_lit
  · exact ev_var (by simp [lookU, dc])
theorem Vals1.e2 (V : Vals1 many less a b x y z w one other) (n : Nat) : Ev (n + 1) other (dc x y z a b) (.int b) := by
  obtain ⟨xy, xz, xw, yz, yw, zw⟩ := V.ne
  rcases V.o2 with e | e <;> rw [e]
  · exact ev_lit
  · exact ev_var (by simp [lookU, dc, xy])
theorem Vals1.d1 (V : Vals1 many less a b x y z w one other) (k : Nat) : U.bd k one = true := by rcases V.o1 with e | e <;> rw [e] <;> rfl
theorem Vals1.d2 (V : Vals1 many less a b x y z w one other) (k : Nat) : U.bd k other = true := by rcases V.o2 with e | e <;> rw [e] <;> rfl
theorem Vals1.mkk (V : Vals1 many less a b x y z w one other) : mulOk a b = true := mul_ok (by have := V.a0; have := V.a1; have := V.m1; omega) (by have := V.b0; have := V.b1; have := V.m1; omega)
def LL (x y z w : Str) (one other : U) (a b m l : Int) : List U := rec5 one other a b m ++ cas x y z w one other a b l
theorem Vals1.cs (V : Vals1 many less a b x y z w one other) : ∀ p ∈ LL x y z w one other a b many less, Cs (dc x y z a b) p := by
  obtain ⟨xy, xz, xw, yz, yw, zw⟩ := V.ne
  refine cs_all V.m0 V.l0 V.mkk V.e1 V.e2 ?_ ?_ (fun u => ?_) (fun u => ?_) (fun u => ?_) (fun u => ?_) (by simp [dc])
  · simp [lookU, dc, xy]
  · simp [lookU, dc, xz, yz]
  · simp [lookU, putU, dc, xy]
  · simp [lookU, putU, dc, xy]
  · simp [lookU, putU, dc, xw, yw, zw]
  · simp [lookU, putU, dc, xw, yw, zw, xz, yz]
def H13 (x y z w : Str) (one other : U) (a b m l : Int) : Os := hp x y z w a b ++ [.lst (rec5 one other a b m), .lst (cas x y z w one other a b l), .lst (LL x y z w one other a b m l)]
abbrev ρ13 (S : U) (m l a b : Int) (one other reply : U) (s13 s14 s15 : Option U) : En := [some S, some (.int m), some (.int l), some (.int a), some (.int b), some (.ref 0), some one, some other, some (.ref 1), some (.ref 2), some (.ref 3), some reply, some (.ref 7), s13, s14, s15, none, none, none, none]
theorem bds_app {n : Nat} : ∀ {us vs : List U}, U.bds n us = true → U.bds n vs = true → U.bds n (us ++ vs) = true
  | [], _, _, h => h
  | u :: us, _, h, h2 => by
    rw [U.bds, Bool.and_eq_true] at h
    rw [List.cons_append, U.bds, h.1, bds_app h.2 h2]
    rfl
theorem Vals1.b5 (V : Vals1 many less a b x y z w one other) (k : Nat) : U.bds k (rec5 one other a b many) = true := by simp [U.bds, U.bd, rec5, pr, V.d1, V.d2]
theorem Vals1.b12 (V : Vals1 many less a b x y z w one other) (k : Nat) : U.bds k (cas x y z w one other a b less) = true := by simp [U.bds, U.bd, cas, pr, V.d1, V.d2]
theorem Vals1.wf13 (V : Vals1 many less a b x y z w one other) : wf (H13 x y z w one other a b many less) = true := by
  have h1 := V.b5 8
  have h2 := V.b12 8
  have h3 := bds_app h1 h2
  simp only [wf, H13, hp, dc, List.cons_append, List.nil_append, List.all_cons, List.all_nil, O.bd, List.length_cons, List.length_nil, U.bds, U.bd, LL]
  simp [h1, h2, h3]
theorem st12 {n : Nat} (V : Vals1 many less a b x y z w one other) :
    b12_12 (run (n + 1)).1 RC (some S :: some (.int many) :: some (.int less) :: some (.int a) :: some (.int b) :: some (.ref 0) :: some one :: some other :: some (.ref 1) :: some (.ref 2) :: some (.ref 3) :: some reply :: List.replicate 8 none) (hp x y z w a b) =
      b12_13 (run (n + 1)).1 RC (ρ13 S many less a b one other reply none none none) (H13 x y z w one other a b many less) := by
  have q1 := ev_rec (n := n) (h := hp x y z w a b) rfl V.d1 V.d2 V.m0 V.mkk
  have w2 : wf (hp x y z w a b ++ [.lst (rec5 one other a b many)]) = true := wf_snoc rfl (V.b5 _)
  have q2 := ev_cas (n := n) (h := hp x y z w a b ++ [.lst (rec5 one other a b many)]) (i := 0) (x := x) (y := y) (z := z) (w := w) (a := a) (b := b) rfl w2 V.d1 V.d2 V.l0
  have q3 := opAdd_l (h := hp x y z w a b ++ [.lst (rec5 one other a b many)] ++ [.lst (cas x y z w one other a b less)]) (i := 5) (j := 6) (xs := rec5 one other a b many) (ys := cas x y z w one other a b less) rfl rfl (by simp [rec5, cas])
  have q1 : (run (n + 1)).1 10 [one, other, .int a, .int b, .int many] (hp x y z w a b) = .ok (.ref 5) (hp x y z w a b ++ [.lst (rec5 one other a b many)]) := q1
  have q2 : (run (n + 1)).1 11 [.ref 0, one, other, .int a, .int b, .int less] (hp x y z w a b ++ [.lst (rec5 one other a b many)]) = .ok (.ref 6) (hp x y z w a b ++ [.lst (rec5 one other a b many)] ++ [.lst (cas x y z w one other a b less)]) := q2
  have q3 : opAdd (.ref 5) (.ref 6) (hp x y z w a b ++ [.lst (rec5 one other a b many)] ++ [.lst (cas x y z w one other a b less)]) = .ok (.ref 7) (H13 x y z w one other a b many less) := q3
  generalize hp x y z w a b ++ [.lst (rec5 one other a b many)] = h1 at *
  generalize h1 ++ [.lst (cas x y z w one other a b less)] = h2 at *
  generalize hp x y z w a b = h0 at *
  unfold b12_12
  simp [List.replicate, q1, q2, q3]
theorem st13 {n : Nat} (V : Vals1 many less a b x y z w one other) (hr : ∀ k, U.bd (4 + k) reply = true) : ∃ s13 s14 s15,
    b12_13 (run (n + 6)).1 RC (ρ13 S many less a b one other reply none none none) (H13 x y z w one other a b many less) =
      b12_14 (run (n + 6)).1 RC (ρ13 S many less a b one other reply s13 s14 s15) (H13 x y z w one other a b many less) := by
  have loop := goFor_inv (a := (mSeq (mAsg (mCallLam ((run (n + 6)).1 3) 0 [10, 11] (mVar 13) (mVar 9)) (gN 15)) (mIfS (mNot (mTru (mCall 2 ((run (n + 6)).1 6) (mCons (mVar 15) (mCons (mVar 14) mNil))))) (mRet (mC (.bl false))) mSkip)))
    (gm := gTL [gN 13, gN 14]) (gd := [(7, LL x y z w one other a b many less)]) (us := LL x y z w one other a b many less) (n := 0) (P := fun i ρ h => h = H13 x y z w one other a b many less ∧ ∃ s13 s14 s15, ρ = ρ13 S many less a b one other reply s13 s14 s15)
    (fun i ρ h p => ?_) (fun i p ρ h e q => ?_) (ρ := ρ13 S many less a b one other reply none none none) (h := H13 x y z w one other a b many less) ⟨rfl, none, none, none, rfl⟩
  · obtain ⟨ρ', h', e1, rfl, s13, s14, s15, rfl⟩ := loop
    refine ⟨s13, s14, s15, ?_⟩
    have it : iterOf (H13 x y z w one other a b many less) (.ref 7) = some (LL x y z w one other a b many less, [(7, LL x y z w one other a b many less)]) := iterOf_lst rfl
    generalize H13 x y z w one other a b many less = H at *
    simp [b12_13, it, e1]
  · rw [p.1]
    have e7 : (H13 x y z w one other a b many less)[7]? = some (.lst (LL x y z w one other a b many less)) := rfl
    unfold gdOk
    simp only [List.all_cons, List.all_nil, e7, U.eqbs_refl, Bool.and_true]
  · obtain ⟨rfl, s13, s14, s15, rfl⟩ := q
    obtain ⟨ex, d, rfl, ev, bd, al⟩ := V.cs p (List.mem_of_getElem? e)
    have cp : capsOf (ρ13 S many less a b one other reply (some ex) (some d) s15) [10, 11] = some [.ref 3, reply] := rfl
    have hl : (H13 x y z w one other a b many less).length = 8 := rfl
    have wc : wf (H13 x y z w one other a b many less ++ [O.clo 0 [.ref 3, reply]]) = true := wf_snoc V.wf13 (by
      have := hr 5
      rw [hl]
      simpa [O.bd, U.bds, U.bd] using this)
    have e2 : (H13 x y z w one other a b many less ++ [O.clo 0 [.ref 3, reply]])[2]? = some (.dic (dc x y z a b)) := rfl
    have evq : (run (n + 6)).1 3 ([ex, .ref 2] ++ [.ref (H13 x y z w one other a b many less).length]) (H13 x y z w one other a b many less ++ [O.clo 0 [.ref 3, reply]]) = .ok d (H13 x y z w one other a b many less ++ [O.clo 0 [.ref 3, reply]]) := by
      rw [hl]
      exact ev n _ 2 8 e2 wc
    have lg := lamGo_pure (fn := (run (n + 6)).1 3) (us := [ex, .ref 2]) (u := d) (id := 0) (caps := [.ref 3, reply]) (h := H13 x y z w one other a b many less) rfl V.wf13 (bd _)
      evq
    have al := al n _ V.wf13
    refine ⟨ρ13 S many less a b one other reply (some ex) (some d) s15, ρ13 S many less a b one other reply (some ex) (some d) (some d), H13 x y z w one other a b many less, rfl, ?_, rfl, _, _, _, rfl⟩
    have ml := mCallLam_ev (fn := (run (n + 6)).1 3) (id := 0) (f := mVar 13) (g := mVar 9) (h := H13 x y z w one other a b many less) cp
    generalize H13 x y z w one other a b many less = H at *
    simp [ml, lg, al]
end
end K71
namespace K71
open PySem SD
theorem cut4 {p q r s : U} : ∀ k ≤ 4, cutU [p, q, r, s] none (some ((k : Nat) : Int)) = [p, q, r, s].take k
  | 0, _ => rfl
  | 1, _ => rfl
  | 2, _ => rfl
  | 3, _ => rfl
  | 4, _ => rfl
  | k + 5, h => absurd h (by omega)
theorem toDs_int {k : Nat} {h : Os} : ∀ l : List Int, toDs k h (l.map U.int) = some (l.map PyData.int)
  | [] => by simp [toDs]
  | i :: l => by simp [toDs, toD, toDs_int l]
theorem eqv_int : ∀ l : List Int, PyData.eqvAll (l.map PyData.int) (l.map PyData.int) = true
  | [] => rfl
  | i :: l => by simp [PyData.eqvAll, PyData.eqv, eqv_int l]
theorem eq_nil {h : Os} {i j : Nat} (e1 : h[i]? = some (.lst [])) (e2 : h[j]? = some (.lst [])) : eqU h (.ref i) (.ref j) = some true := by
  unfold eqU eqS
  simp [e1, e2, toD, toDs, PyData.eqv, PyData.eqvAll]
theorem eq_dc {h : Os} {i j : Nat} {x y z : Str} {a b : Int} (xy : x ≠ y) (xz : x ≠ z) (yz : y ≠ z) (e1 : h[i]? = some (.dic (dc x y z a b))) (e2 : h[j]? = some (.dic (dc x y z a b))) : eqU h (.ref i) (.ref j) = some true := by
  have t : toKs h (dc x y z a b) = some [(.inr x, .int a), (.inr y, .int b), (.inr z, .tuple [.int a, .int b])] := by simp [toKs, dc, toD, toDs]
  unfold eqU eqS
  simp only [e1, e2, t]
  simp [hitsD, lookD, PyData.eqv, PyData.eqvAll, xy, xz, yz]
theorem eq_heard {h : Os} {i j k l : Nat} {p q : Str} {vs : List Int} (hp : PyData.strOk p = true) (hq : PyData.strOk q = true) (e1 : h[i]? = some (.lst [.tup [.str p, .str q, .ref k]])) (e2 : h[j]? = some (.lst [.tup [.str p, .str q, .ref l]])) (e3 : h[k]? = some (.lst (vs.map U.int))) (e4 : h[l]? = some (.lst (vs.map U.int))) : eqU h (.ref i) (.ref j) = some true := by
  have t1 : toD 60 h (.ref i) = some (.list [.tuple [.str p, .str q, .list (vs.map PyData.int)]]) := by simp [toD, toDs, e1, e3, hp, hq, toDs_int]
  have t2 : toD 60 h (.ref j) = some (.list [.tuple [.str p, .str q, .list (vs.map PyData.int)]]) := by simp [toD, toDs, e2, e4, hp, hq, toDs_int]
  unfold eqU eqS
  simp only [e1, e2, t1, t2]
  simp [PyData.eqv, PyData.eqvAll, eqv_int]
theorem opNe_of {h : Os} {u v : U} {r : Bool} (e : eqU h u v = some r) : opNe u v h = .ok (.bl (!r)) h := by unfold opNe; rw [e]
theorem opEq_of {h : Os} {u v : U} {r : Bool} (e : eqU h u v = some r) : opEq u v h = .ok (.bl r) h := by unfold opEq; rw [e]
section
variable {RC : Nat → CloU} {S : U} {c : Nat → Int} {many less a b : Int} {x y z w : Str} {one other reply : U}
abbrev ρ16 (S : U) (m l a b : Int) (one other reply : U) (s13 s14 s15 : Option U) (k : Int) (p q : Str) : En := [some S, some (.int m), some (.int l), some (.int a), some (.int b), some (.ref 0), some one, some other, some (.ref 1), some (.ref 2), some (.ref 3), some reply, some (.ref 7), s13, s14, s15, some (.int k), some (.str p), some (.str q), none]
theorem st14 {n : Nat} (C : Cell (run (n + 1)).1 S c) (V : Vals1 many less a b x y z w one other) {s13 s14 s15 : Option U} : ∃ (k : Nat) (p q : Str), k ≤ 4 ∧ PyData.strOk p = true ∧ PyData.strOk q = true ∧ ∃ o : O, O.bd 9 o = true ∧ noClo o = true ∧
    b12_14 (run (n + 1)).1 RC (ρ13 S many less a b one other reply s13 s14 s15) (H13 x y z w one other a b many less) =
      b12_18 (run (n + 1)).1 RC (ρ16 S many less a b one other reply s13 s14 s15 k p q) (H13 x y z w one other a b many less ++ [.lst [], o]) := by
  obtain ⟨xy, xz, xw, yz, yw, zw⟩ := V.ne
  have n1 := opNe_of (eq_nil (h := H13 x y z w one other a b many less ++ [.lst []]) (i := 3) (j := 8) rfl rfl)
  have n2 := opNe_of (eq_dc (h := H13 x y z w one other a b many less ++ [.lst []]) (i := 2) (j := 1) xy xz yz rfl rfl)
  obtain ⟨k, hk, hk4⟩ : ∃ k : Nat, c 7 / 2 % 5 = k ∧ k ≤ 4 := ⟨(c 7 / 2 % 5).toNat, by omega, by omega⟩
  have d2 : divOk (c 7) 2 = true := div_ok (by decide +kernel)
  obtain ⟨ws, hl, _, ok, ew⟩ := ev_words n (c 8) 2 (by omega) (H13 x y z w one other a b many less ++ [.lst []]) (wf_snoc V.wf13 rfl)
  match ws, hl with
  | [p, q], _ =>
  have g := gTL_ref (l := [gN 17, gN 18]) (h := H13 x y z w one other a b many less ++ [.lst []] ++ [.lst [.str p, .str q]]) (i := 9) (us := [.str p, .str q]) (ρ := [some S, some (.int many), some (.int less), some (.int a), some (.int b), some (.ref 0), some one, some other, some (.ref 1), some (.ref 2), some (.ref 3), some reply, some (.ref 7), s13, s14, s15, some (.int k), none, none, none]) rfl rfl
  have ew : (run (n + 1)).1 7 [.int (c 8), .int 2] (H13 x y z w one other a b many less ++ [.lst []]) = .ok (.ref 9) (H13 x y z w one other a b many less ++ [.lst []] ++ [.lst [.str p, .str q]]) := ew
  have h8 : (H13 x y z w one other a b many less).length = 8 := rfl
  have e1 : b12_14 (run (n + 1)).1 RC (ρ13 S many less a b one other reply s13 s14 s15) (H13 x y z w one other a b many less) = b12_17 (run (n + 1)).1 RC (ρ16 S many less a b one other reply s13 s14 s15 k p q) (H13 x y z w one other a b many less ++ [.lst []] ++ [.lst [.str p, .str q]]) := by
    generalize H13 x y z w one other a b many less = H at *
    generalize H ++ [.lst []] ++ [.lst [.str p, .str q]] = H2 at *
    simp [b12_14, b12_15, b12_16, h8, n1, n2, C.c7, C.c8, d2, hk, ew, g]
  have es : H13 x y z w one other a b many less ++ [.lst []] ++ [.lst [.str p, .str q]] = H13 x y z w one other a b many less ++ [.lst [], .lst [.str p, .str q]] := by simp
  rw [e1, es]
  by_cases h9 : c 9 % 3 = 0
  · refine ⟨k, "", q, hk4, by decide +kernel, ok q (by simp), .lst [.str p, .str q], rfl, rfl, ?_⟩
    generalize H13 x y z w one other a b many less ++ [.lst [], .lst [.str p, .str q]] = H2 at *
    simp [b12_17, C.c9, h9]
  · refine ⟨k, p, q, hk4, ok p (by simp), ok q (by simp), .lst [.str p, .str q], rfl, rfl, ?_⟩
    generalize H13 x y z w one other a b many less ++ [.lst [], .lst [.str p, .str q]] = H2 at *
    simp [b12_17, C.c9, h9]
abbrev ρ19 (S : U) (m l a b : Int) (one other reply : U) (s13 s14 s15 : Option U) (k : Int) (p q : Str) (es : List U) : En := [some S, some (.int m), some (.int l), some (.int a), some (.int b), some (.ref 0), some one, some other, some (.ref 1), some (.ref 2), some (.ref 3), some reply, some (.ref 7), s13, s14, s15, some (.int k), some (.str p), some (.str q), some (.tup [.str "call", .str p, .str q, .tup es])]
theorem noClo_l (xs : List U) : noClo (.lst xs) = true := rfl
def es4 (one other : U) (k : Nat) : List U := [one, other, one, other].take k
def vs4 (a b : Int) (k : Nat) : List Int := [a, b, a, b].take k
def H18 (x y z w : Str) (one other : U) (a b m l : Int) (o : O) (k : Nat) : Os := H13 x y z w one other a b m l ++ [.lst [], o, .lst [one, other, one, other], .lst (es4 one other k)]
theorem st18 {R : Nat → FnU} {s13 s14 s15 : Option U} {k : Nat} {p q : Str} {o : O} (hk : k ≤ 4) : b12_18 R RC (ρ16 S many less a b one other reply s13 s14 s15 k p q) (H13 x y z w one other a b many less ++ [.lst [], o]) =
    b12_19 R RC (ρ19 S many less a b one other reply s13 s14 s15 k p q (es4 one other k)) (H18 x y z w one other a b many less o k) := by
  have s1 : mSl' (mLst (mCons (mVar 6) (mCons (mVar 7) (mCons (mVar 6) (mCons (mVar 7) mNil))))) mNoP (mPart (mVar 16)) (ρ16 S many less a b one other reply s13 s14 s15 k p q) (H13 x y z w one other a b many less ++ [.lst [], o]) = .ok (.ref 11) (H18 x y z w one other a b many less o k) := by
    rw [mSl_of (x := .ref 10) (lo := none) (hi := some (k : Int)) (h1 := H13 x y z w one other a b many less ++ [.lst [], o] ++ [.lst [one, other, one, other]]) (h2 := H13 x y z w one other a b many less ++ [.lst [], o] ++ [.lst [one, other, one, other]]) (h3 := H13 x y z w one other a b many less ++ [.lst [], o] ++ [.lst [one, other, one, other]]) rfl rfl rfl]
    rw [opSl_lst (xs := [one, other, one, other]) rfl, cut4 k hk]
    rfl
  have t1 := bTuple_lst (h := H18 x y z w one other a b many less o k) (i := 11) (us := es4 one other k) rfl
  generalize H18 x y z w one other a b many less o k = H2 at *
  simp [b12_18, s1, t1]
def H19 (x y z w : Str) (one other : U) (a b m l : Int) (o : O) (k : Nat) (p q : Str) : Os := (H18 x y z w one other a b m l o k).set 3 (.lst [.tup [.str p, .str q, .ref 13]]) ++ .dead :: [.lst ((vs4 a b k).map U.int)]
theorem st19 {n : Nat} (V : Vals1 many less a b x y z w one other) (hr : ∀ k, U.bd (4 + k) reply = true) {s13 s14 s15 : Option U} {k : Nat} {p q : Str} {o : O} (hk : k ≤ 4) (ho : O.bd 9 o = true) (hn : noClo o = true) : b12_19 (run (n + 3)).1 RC (ρ19 S many less a b one other reply s13 s14 s15 k p q (es4 one other k)) (H18 x y z w one other a b many less o k) =
    b12_20 (run (n + 3)).1 RC (ρ19 S many less a b one other reply s13 s14 (some reply) k p q (es4 one other k)) (H19 x y z w one other a b many less o k p q) := by
  have hl : (H18 x y z w one other a b many less o k).length = 12 := rfl
  have bes : ∀ j, U.bds j (es4 one other k) = true := fun j => bds_of fun u hu => by
    have hu := List.mem_of_mem_take hu
    simp only [List.mem_cons, List.not_mem_nil, or_false] at hu
    rcases hu with e | e | e | e <;> rw [e]
    · exact V.d1 j
    · exact V.d2 j
    · exact V.d1 j
    · exact V.d2 j
  have hw : wf (H18 x y z w one other a b many less o k) = true := by
    have w1 : wf (H13 x y z w one other a b many less ++ [.lst []] ++ [o] ++ [.lst [one, other, one, other]] ++ [.lst (es4 one other k)]) = true := by
      refine wf_snoc (wf_snoc (wf_snoc (wf_snoc V.wf13 rfl) (O.bd_mono (show 9 ≤ 10 by decide) ho)) ?_) (bes _)
      simp [O.bd, U.bds, V.d1, V.d2]
    have e : H18 x y z w one other a b many less o k = H13 x y z w one other a b many less ++ [.lst []] ++ [o] ++ [.lst [one, other, one, other]] ++ [.lst (es4 one other k)] := by simp [H18]
    rw [e]
    exact w1
  have nc : (H18 x y z w one other a b many less o k).all noClo = true := by
    have e1 : (H13 x y z w one other a b many less).all noClo = true := rfl
    rw [H18, List.all_append, e1]
    simp only [List.all_cons, List.all_nil, noClo_l, hn, Bool.and_self]
  have wc : wf (H18 x y z w one other a b many less o k ++ [O.clo 1 [.ref 3, reply]]) = true := wf_snoc hw (by
    have := hr 9
    rw [hl]
    simpa [O.bd, U.bds, U.bd] using this)
  have hl2 : (es4 one other k).length = ((vs4 a b k).map U.int).length := by simp [es4, vs4]
  have ec := ev_call (n := n) (h := H18 x y z w one other a b many less o k ++ [O.clo 1 [.ref 3, reply]]) (v := 2) (c := 12) (hd := 3) (kvs := dc x y z a b) (es := es4 one other k) (vs := (vs4 a b k).map U.int) (p := .str p) (q := .str q) (r := reply) rfl rfl rfl wc hl2 (by simp [es4]; omega) (fun i e u he hu => by
    have hi : i < k := by
      have := (List.getElem?_eq_some_iff.mp he).1
      simp [es4] at this
      omega
    unfold es4 at he
    unfold vs4 at hu
    rw [List.getElem?_take_of_lt hi] at he
    rw [List.getElem?_map, List.getElem?_take_of_lt hi] at hu
    match i, he, hu with
    | 0, he, hu => cases he; cases hu; exact V.e1 _
    | 1, he, hu => cases he; cases hu; exact V.e2 _
    | 2, he, hu => cases he; cases hu; exact V.e1 _
    | 3, he, hu => cases he; cases hu; exact V.e2 _
    | i + 4, he, hu => omega)
  have e2 : (run (n + 3)).1 3 ([.tup [.str "call", .str p, .str q, .tup (es4 one other k)], .ref 2] ++ [.ref (H18 x y z w one other a b many less o k).length]) (H18 x y z w one other a b many less o k ++ [O.clo 1 [.ref 3, reply]]) =
      .ok reply ((H18 x y z w one other a b many less o k).set 3 (.lst [.tup [.str p, .str q, .ref 13]]) ++ .clo 1 [.ref 3, reply] :: [.lst ((vs4 a b k).map U.int)]) := by
    rw [hl]
    refine ec.trans ?_
    rfl
  have lg := lamGo_of (fn := (run (n + 3)).1 3) (us := [.tup [.str "call", .str p, .str q, .tup (es4 one other k)], .ref 2]) (u := reply) (id := 1) (caps := [.ref 3, reply]) (h := H18 x y z w one other a b many less o k) nc
    (h' := (H18 x y z w one other a b many less o k).set 3 (.lst [.tup [.str p, .str q, .ref 13]])) (t := [.lst ((vs4 a b k).map U.int)]) (by
      have e1 : ((H13 x y z w one other a b many less).set 3 (.lst [.tup [.str p, .str q, .ref 13]])).all noClo = true := rfl
      show ((H13 x y z w one other a b many less).set 3 (.lst [.tup [.str p, .str q, .ref 13]]) ++ [O.lst [], o, .lst [one, other, one, other], .lst (es4 one other k)]).all noClo = true
      rw [List.all_append, e1]
      simp only [List.all_cons, List.all_nil, noClo_l, hn, Bool.and_self]) rfl (by simp) e2
  rw [gc_keep (by
    have e : ((H18 x y z w one other a b many less o k).set 3 (.lst [.tup [.str p, .str q, .ref 13]]) ++ O.dead :: [O.lst ((vs4 a b k).map U.int)]).take (H18 x y z w one other a b many less o k).length = (H18 x y z w one other a b many less o k).set 3 (.lst [.tup [.str p, .str q, .ref 13]]) := rfl
    rw [e, List.all_eq_false]
    exact ⟨.lst [.tup [.str p, .str q, .ref 13]], List.mem_of_getElem? (i := 3) rfl, by rw [hl]; simp [O.bd, U.bds, U.bd]⟩)] at lg
  have cp : capsOf (ρ19 S many less a b one other reply s13 s14 s15 k p q (es4 one other k)) [10, 11] = some [.ref 3, reply] := rfl
  have ml := mCallLam_ev (fn := (run (n + 3)).1 3) (id := 1) (f := mVar 19) (g := mVar 9) (h := H18 x y z w one other a b many less o k) cp
  have lg : lamGo ((run (n + 3)).1 3) 1 [.ref 3, reply] [.tup [.str "call", .str p, .str q, .tup (es4 one other k)], .ref 2] (H18 x y z w one other a b many less o k) = .ok reply (H19 x y z w one other a b many less o k p q) := lg
  generalize H18 x y z w one other a b many less o k = H2 at *
  generalize H19 x y z w one other a b many less o k p q = H3 at *
  simp [b12_19, ml, lg]
theorem st20 {n : Nat} (V : Vals1 many less a b x y z w one other) (al : ∀ h, wf h = true → (run (n + 3)).1 6 [reply, reply] h = .ok (.bl true) h) {s13 s14 : Option U} {k : Nat} {p q : Str} {o : O} (hk : k ≤ 4) (hp : PyData.strOk p = true) (hq : PyData.strOk q = true) (hw : wf (H19 x y z w one other a b many less o k p q) = true) : ∃ h', toR (b12_20 (run (n + 3)).1 RC (ρ19 S many less a b one other reply s13 s14 (some reply) k p q (es4 one other k)) (H19 x y z w one other a b many less o k p q)) = .ok (.bl true) h' := by
  have a1 := al _ hw
  have l1 := bLen_lst (h := H19 x y z w one other a b many less o k p q) (i := 3) (us := [.tup [.str p, .str q, .ref 13]]) rfl
  have i1 := opIx_lst (h := H19 x y z w one other a b many less o k p q) (i := 3) (k := 0) (us := [.tup [.str p, .str q, .ref 13]]) (u := .tup [.str p, .str q, .ref 13]) rfl rfl
  have i2 := bIsa_lst (h := H19 x y z w one other a b many less o k p q) (i := 13) (us := (vs4 a b k).map U.int) (n := "list") rfl
  have e1 : b12_20 (run (n + 3)).1 RC (ρ19 S many less a b one other reply s13 s14 (some reply) k p q (es4 one other k)) (H19 x y z w one other a b many less o k p q) = b12_21 (run (n + 3)).1 RC (ρ19 S many less a b one other reply s13 s14 (some reply) k p q (es4 one other k)) (H19 x y z w one other a b many less o k p q) := by
    generalize H19 x y z w one other a b many less o k p q = H at *
    simp at i1 l1
    simp [b12_20, a1, l1, i1, i2]
  rw [e1]
  have hL : (H19 x y z w one other a b many less o k p q).length = 14 := rfl
  have s1 : mSl' (mLst (mCons (mVar 3) (mCons (mVar 4) (mCons (mVar 3) (mCons (mVar 4) mNil))))) mNoP (mPart (mVar 16)) (ρ19 S many less a b one other reply s13 s14 (some reply) k p q (es4 one other k)) (H19 x y z w one other a b many less o k p q) = .ok (.ref 15) (H19 x y z w one other a b many less o k p q ++ [.lst [.int a, .int b, .int a, .int b], .lst ((vs4 a b k).map U.int)]) := by
    rw [mSl_of (x := .ref 14) (lo := none) (hi := some (k : Int)) (h1 := H19 x y z w one other a b many less o k p q ++ [.lst [.int a, .int b, .int a, .int b]]) (h2 := H19 x y z w one other a b many less o k p q ++ [.lst [.int a, .int b, .int a, .int b]]) (h3 := H19 x y z w one other a b many less o k p q ++ [.lst [.int a, .int b, .int a, .int b]]) rfl rfl rfl]
    rw [opSl_lst (xs := [.int a, .int b, .int a, .int b]) rfl, cut4 k hk]
    have : ([.int a, .int b, .int a, .int b] : List U).take k = (vs4 a b k).map U.int := by simp [vs4]
    rw [this, List.append_assoc]
    rfl
  obtain ⟨xy, xz, xw, yz, yw, zw⟩ := V.ne
  have q1 := opEq_of (eq_heard (h := H19 x y z w one other a b many less o k p q ++ [.lst [.int a, .int b, .int a, .int b], .lst ((vs4 a b k).map U.int)] ++ [.lst [.tup [.str p, .str q, .ref 15]]]) (i := 3) (j := 16) (k := 13) (l := 15) (vs := vs4 a b k) hp hq rfl rfl rfl rfl)
  have q2 := opEq_of (eq_dc (h := H19 x y z w one other a b many less o k p q ++ [.lst [.int a, .int b, .int a, .int b], .lst ((vs4 a b k).map U.int)] ++ [.lst [.tup [.str p, .str q, .ref 15]]]) (i := 2) (j := 1) xy xz yz rfl rfl)
  have l16 : (H19 x y z w one other a b many less o k p q ++ [.lst [.int a, .int b, .int a, .int b], .lst ((vs4 a b k).map U.int)] : Os).length = 16 := rfl
  generalize H19 x y z w one other a b many less o k p q ++ [.lst [.int a, .int b, .int a, .int b], .lst ((vs4 a b k).map U.int)] = H2 at *
  refine ⟨H2 ++ [.lst [.tup [.str p, .str q, .ref 15]]], ?_⟩
  generalize H19 x y z w one other a b many less o k p q = H at *
  simp [b12_21, s1, l16, q1, q2]
end
end K71
namespace K71
open PySem SD
theorem wf19 {many less a b : Int} {x y z w : Str} {one other : U} (V : Vals1 many less a b x y z w one other) {k : Nat} {p q : Str} {o : O} (ho : O.bd 9 o = true) : wf (H19 x y z w one other a b many less o k p q) = true := by
  have hw := V.wf13
  have b1 : O.bd 14 (.lst [one, other, one, other]) = true := by simp [O.bd, U.bds, V.d1, V.d2]
  have b2 : O.bd 14 (.lst (es4 one other k)) = true := bds_of fun u hu => by
    have hu := List.mem_of_mem_take hu
    simp only [List.mem_cons, List.not_mem_nil, or_false] at hu
    rcases hu with e | e | e | e <;> rw [e]
    · exact V.d1 _
    · exact V.d2 _
    · exact V.d1 _
    · exact V.d2 _
  have b3 : O.bd 14 (.lst ((vs4 a b k).map U.int)) = true := bds_of fun u hu => by
    obtain ⟨i, _, rfl⟩ := List.mem_map.mp hu
    rfl
  have e : H19 x y z w one other a b many less o k p q = (H13 x y z w one other a b many less).set 3 (.lst [.tup [.str p, .str q, .ref 13]]) ++ [.lst [], o, .lst [one, other, one, other], .lst (es4 one other k), .dead, .lst ((vs4 a b k).map U.int)] := rfl
  show (H19 x y z w one other a b many less o k p q).all (O.bd 14) = true
  rw [e, List.all_append, Bool.and_eq_true]
  refine ⟨List.all_eq_true.mpr fun u hu => ?_, ?_⟩
  · rcases List.mem_or_eq_of_mem_set hu with z | z
    · exact O.bd_mono (n := 8) (by decide) (List.all_eq_true.mp hw u z)
    · rw [z]; rfl
  · simp only [List.all_cons, List.all_nil, b1, b2, b3, O.bd_mono (show 9 ≤ 14 by decide) ho, Bool.and_true]
    rfl
def lawFn : FnU := runDef 20 (b12 (run 19).1 (run 19).2)
theorem plain (ns : List Int) (h : ns.length ≤ 63) : ∃ h', lawFn [.fls (ns.map U.int)] [] = .ok (.bl true) h' := by
  have C : Cell (run 19).1 (.fls (ns.map U.int)) (cellAt ns) := ⟨fun h' => ev_cell 18 ns h 0 (by omega) h', fun h' => ev_cell 18 ns h 1 (by omega) h', fun h' => ev_cell 18 ns h 2 (by omega) h', fun h' => ev_cell 18 ns h 3 (by omega) h', fun h' => ev_cell 18 ns h 4 (by omega) h',
    fun h' => ev_cell 18 ns h 5 (by omega) h', fun h' => ev_cell 18 ns h 6 (by omega) h', fun h' => ev_cell 18 ns h 7 (by omega) h', fun h' => ev_cell 18 ns h 8 (by omega) h', fun h' => ev_cell 18 ns h 9 (by omega) h'⟩
  obtain ⟨many, less, a, b, h0, h1, h2, h3, h4, h5, h6, e0⟩ := st0 (RC := (run 19).2) C
  obtain ⟨x, y, z, w, one, other, reply, V, hr, e5⟩ := st5 (n := 17) (RC := (run 19).2) (S := .fls (ns.map U.int)) (c := cellAt ns) C h0 h1 h2 h3 h4 h5 h6
  have bdr : ∀ k, U.bd (4 + k) reply = true := fun k => by rcases hr with e | e <;> rw [e] <;> rfl
  have e12 := st12 (n := 18) (RC := (run 19).2) (S := .fls (ns.map U.int)) (reply := reply) V
  obtain ⟨s13, s14, s15, e13⟩ := st13 (n := 13) (RC := (run 19).2) (S := .fls (ns.map U.int)) (reply := reply) V bdr
  obtain ⟨k, p, q, hk, hp, hq, o, ho, hn, e14⟩ := st14 (n := 18) (RC := (run 19).2) (S := .fls (ns.map U.int)) (reply := reply) C V (s13 := s13) (s14 := s14) (s15 := s15)
  have e18 := st18 (R := (run 19).1) (RC := (run 19).2) (S := .fls (ns.map U.int)) (many := many) (less := less) (a := a) (b := b) (x := x) (y := y) (z := z) (w := w) (one := one) (other := other) (reply := reply) (s13 := s13) (s14 := s14) (s15 := s15) (p := p) (q := q) (o := o) hk
  have e19 := st19 (n := 16) (RC := (run 19).2) (S := .fls (ns.map U.int)) (reply := reply) V bdr (s13 := s13) (s14 := s14) (s15 := s15) (p := p) (q := q) hk ho hn
  obtain ⟨h', e20⟩ := st20 (n := 16) (RC := (run 19).2) (S := .fls (ns.map U.int)) (reply := reply) V (fun h hw => by
    rcases hr with e | e <;> rw [e]
    · exact ok_int (n := 17)
    · exact ok_two (n := 16) hw) (s13 := s13) (s14 := s14) (p := p) (q := q) (o := o) hk hp hq (wf19 V ho)
  have all : toR (b12 (run 19).1 (run 19).2 (some (.fls (ns.map U.int)) :: List.replicate 19 none) []) = .ok (.bl true) h' :=
    (congrArg toR (e0.trans (e5.trans (e12.trans (e13.trans (e14.trans (e18.trans e19))))))).trans e20
  refine ⟨[], ?_⟩
  show gc 0 (toR (b12 (run 19).1 (run 19).2 (some (.fls (ns.map U.int)) :: List.replicate 19 none) [])) = _
  rw [all]
  exact gc_cut (h := []) rfl rfl rfl
end K71
namespace K71
open PySem PySem.Spec PyProof.Rows L2 LamX NdefX SD
theorem law_at {l : PySem.W.OpenLaw} {w : World} {K : PySem.W.Frag} {h : Heap} {mg : Str → Option Value} {fa : Addr} {T : List (Addr × Str)} {cs : List (Addr × Addr)} (FF : Facts K mg T cs) (hfa : mg "law" = some (.ref fa))
    (h1 : ∀ p ∈ cs, h.get? p.2 = some { cls := .none, data := .fields #[] }) (h2 : ∀ p ∈ cs, K.lookup p.2 = none) (h3 : ∀ p ∈ cs, PySem.W.CodeHd h p.1 p.2) (hT : ∀ q ∈ T, ∃ p ∈ cs, q.1 = p.2) :
    LawAtS l w K (L2.CX l.prog w) 20 63 "_law_script" mg fa h := by
  obtain ⟨f, fd, c, P, m, F, kp, b, t1, t2, t3⟩ := FF.f12
  have e := hfa.symm.trans m
  cases e
  refine ⟨fd, cs, spScr K T lawFn, h1, h2, h3, fun s u => ?_, fun H a ns hl _ hc hS => ?_, fun base _ _ hTB => ?_⟩
  · obtain ⟨oc, od, kV, doc, pm, an, ct, osl, rfl, lk, hcd⟩ := F.ex
    exact .of_eq rfl
  · refine ⟨a, ns, rfl, hS, fun q hq => ?_, plain ns hl, fun _ => rfl⟩
    obtain ⟨p, hp, ep⟩ := hT q hq
    rw [ep]
    exact TabS.nil (hc p hp)
  · have A := all_ok (P := l.prog) (w := w) (base := base) FF hTB 19
    have q : FnOk l.prog w K mg base (L2.CX l.prog w) (19 + 1) fa fd ["_law_script"] (spM (ctOf K mg T tb) 1 lawFn) := fn_defC (C := ctOf K mg T tb) F sc12 fun A0 outer s H E hr => d12 FF.z A (xok_cx sc12 hr) ⟨c, P, hTB _ t3, rfl, t1, t2⟩
    exact fn_script q
theorem law_at1 {l : PySem.W.OpenLaw} {w : World} {K : PySem.W.Frag} {h : Heap} {mg : Str → Option Value} {fa c P : Addr} (X : K.In h) (FF : Facts K mg [(P, "law.<locals>.<lambda>")] [(c, P)]) (hfa : mg "law" = some (.ref fa))
    (h2 : PySem.W.codeHdIn K c P = true) (h3 : K.lookup P = none) (h1 : h.get? P = some { cls := .none, data := .fields #[] }) : LawAtS l w K (L2.CX l.prog w) 20 63 "_law_script" mg fa h :=
  law_at FF hfa (fun p hp => by rw [List.mem_singleton.mp hp]; exact h1) (fun p hp => by rw [List.mem_singleton.mp hp]; exact h3) (fun p hp => by rw [List.mem_singleton.mp hp]; exact PySem.W.codeHd_of_K X h2) fun q hq => ⟨_, List.mem_singleton.mpr rfl, by rw [List.mem_singleton.mp hq]⟩
theorem walk {l : PySem.W.OpenLaw} {q : Program} {loose : List Str} {XP : (Str → Option Value) → Heap → Prop} {YP : World → Heap → Prop} {d : DefRec} {K : Params → PySem.W.Frag} (hn : l.most = some 63) (hdf : d.params.defaults = []) (hY : ∀ (w : World) (h : Heap), YP w h → (K w.params).In h)
    (F : ∀ (w : World) (mg : Str → Option Value) (fa : Addr) (h : Heap), YP w h → (K w.params).In h → h.Ns mainGlobals mg → mg d.name = some (.ref fa) → LawAtS l w (K w.params) (L2.CX l.prog w) 20 63 "_law_script" mg fa h) :
    PySem.W.WalkO q loose XP YP l.row.toRowW d [] (fun f vs => PySem.call f vs) :=
  walk_ofTs (n := 63) (k := 20) (CX := fun w => L2.CX l.prog w) hn (by decide) hdf ⟨rfl, by decide, by decide⟩ hY F fun w H s e s' => cx_false
end K71
open PySem PySem.W PyProof.Rows
set_option maxRecDepth 100000 in
set_option maxHeartbeats 0 in
theorem PySem.Challenge.cw_sealhouse_k71_single_expressions_holds : PySem.Challenge.rw_sealhouse_k71_single_expressions.Holds := by
  w_on; o_law; k_head; (case hw => w_witness2)
  k_fill
  refine K71.walk (l := PySem.Challenge.rw_sealhouse_k71_single_expressions) rfl rfl (fun w h Y => km_in_of Y) ?F
  case F =>
    intro w mg fa h Y KX G hmg
    have hT8 := km_tabs_of Y
    refine K71.law_at1 KX (c := ?c) (P := ?P) (FF := ?ff) hmg ?h1 ?h2 (hT8 _ ?h3)
    case h3 => exact List.mem_cons_self
    case ff =>
      refine' K71.mk_facts KX G ?a0 ?l0 ?gg0 ?k0 ?a1 ?l1 ?gg1 ?k1 ?a2 ?l2 ?gg2 ?k2 ?a3 ?l3 ?gg3 ?k3 ?a4 ?l4 ?gg4 ?k4 ?a5 ?l5 ?gg5 ?k5 ?a6 ?l6 ?gg6 ?k6 ?a7 ?l7 ?gg7 ?k7 ?a8 ?l8 ?gg8 ?k8 ?a9 ?l9 ?gg9 ?k9 ?a10 ?l10 ?gg10 ?k10 ?a11 ?l11 ?gg11 ?k11 ?a12 ?l12 ?gg12 ?k12 ?z_all ?z_bool ?z_dict ?z_int ?z_isinstance ?z_len ?z_list ?z_range ?z_str ?z_tuple ?z_zip
      (case a0 => k_is); (case l0 => k_is); (case gg0 => k_is); (case k0 => k_is); (case a1 => k_is); (case l1 => k_is); (case gg1 => k_is); (case k1 => k_is); (case a2 => k_is); (case l2 => k_is); (case gg2 => k_is); (case k2 => k_is); (case a3 => k_is); (case l3 => k_is); (case gg3 => k_is); (case k3 => k_is); (case a4 => k_is); (case l4 => k_is); (case gg4 => k_is); (case k4 => k_is); (case a5 => k_is); (case l5 => k_is); (case gg5 => k_is); (case k5 => k_is); (case a6 => k_is); (case l6 => k_is); (case gg6 => k_is); (case k6 => k_is); (case a7 => k_is); (case l7 => k_is); (case gg7 => k_is); (case k7 => k_is); (case a8 => k_is); (case l8 => k_is); (case gg8 => k_is); (case k8 => k_is); (case a9 => k_is); (case l9 => k_is); (case gg9 => k_is); (case k9 => k_is); (case a10 => k_is); (case l10 => k_is); (case gg10 => k_is); (case k10 => k_is); (case a11 => k_is); (case l11 => k_is); (case gg11 => k_is); (case k11 => k_is); (case a12 => k_is); (case l12 => k_is); (case gg12 => k_is); (case k12 => k_is); (case z_all => k_is); (case z_bool => k_is); (case z_dict => k_is); (case z_int => k_is); (case z_isinstance => k_is); (case z_len => k_is); (case z_list => k_is); (case z_range => k_is); (case z_str => k_is); (case z_tuple => k_is); (case z_zip => k_is)
    case h1 => kernel_rfl
    case h2 => kernel_rfl
#print axioms PySem.Challenge.cw_sealhouse_k71_single_expressions_holds
