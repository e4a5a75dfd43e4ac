import PyProof.Rows.All
import HandS.ForMost
import HandS.Deep
import HandS.TupMul
import HandS.TupAny
import HandS.TupLe
import HandS.Conv
import HandS.Style
import HandS.IsInst
import HandS.Wide
import HandS.More
import HandS.WideBits
import HandS.NoneIn
import HandS.Exc
import HandS.ExcOwn
import HandS.WordsExc
import KE.DataEq
import HandS.TupLen
import HandS.Small
import HandS.SortInts
import HandS.HeadHook1
import HandS.Head0
import HandS.Head1
import HandS.Head2
import HandS.HeadEnd
import HandS.HeadHook2
import PySem.Challenge.RW_farwords_k01_whole_small_fields
set_option Elab.async false
set_option linter.all false
set_option maxRecDepth 100000
/-! FwA: a layer of values as plain data over the hand layer: slots, configurations, expressions and statements as plain functions. -/
namespace FW
open PySem PySem.Spec L2
open PyProof.Rows hiding St
abbrev D := PyData

/-! ### data in the abstract heap -/
/-- a key as data -/
def kD : Key → D
  | .inl i => .int i
  | .inr x => .str x
/-- keys that are tuples -/
def kTD (ks : List Key) : D := .tuple (ks.map kD)
/-- what tells a dict of tuple keys from one of ints and texts -/
def tagT : D × D := (.list [.none], .none)
/-- .. an instance -/
def tagI : D := .list []
def obD (cls : Str) (ns : List Str) (ds : List D) : D := .dict ((tagI, .str cls) :: (ns.map PyData.str).zip ds)
def dictD (t : Bool) (es : List (D × D)) : D := .dict (if t then tagT :: es else es)
mutual
inductive Rp (K : PySem.W.Frag) (Z : Hp) : V → D → Prop
  | non : Rp K Z .non .none
  | bl (b : Bool) : Rp K Z (.bl b) (.bool b)
  | int (i : Int) : Rp K Z (.int i) (.int i)
  | str (x : Str) : Rp K Z (.str x) (.str x)
  | lst {a : Addr} {xs : List V} {ds : List D} : Z a = some (.lst xs) → RpA K Z xs ds → Rp K Z (.ref a) (.list ds)
  | tup {a : Addr} {xs : List V} {ds : List D} : Z a = some (.tup xs) → RpA K Z xs ds → Rp K Z (.ref a) (.tuple ds)
  | dk {a : Addr} {o : Obj} {ks : List Key} {vs : List V} {es : List D} : Z a = some (.frz o (.dK (ks.zip vs))) → ks.length = es.length → RpA K Z vs es → Rp K Z (.ref a) (.dict ((ks.map kD).zip es))
  | dt {a : Addr} {o : Obj} {ks : List (List Key)} {vs : List V} {es : List D} : Z a = some (.frz o (.dT (ks.zip vs))) → ks.length = es.length → RpA K Z vs es → Rp K Z (.ref a) (.dict (tagT :: (ks.map kTD).zip es))
  | ob {a dx : Addr} {cls : Str} {ns : List Str} {vs : List V} {ds : List D} : Z a = some (.ins (He.ga K cls) dx (ns.zip vs)) → Z dx = some (.own a) → ns.length = ds.length → RpA K Z vs ds → Rp K Z (.ref a) (obD cls ns ds)
inductive RpA (K : PySem.W.Frag) (Z : Hp) : List V → List D → Prop
  | nil : RpA K Z [] []
  | cons {v : V} {vs : List V} {d : D} {ds : List D} : Rp K Z v d → RpA K Z vs ds → RpA K Z (v :: vs) (d :: ds)
end
theorem sameT {K : PySem.W.Frag} {Z Z' : Hp} {a : Addr} {xs : List V} (e : Same Z Z') (h : SqT K Z a xs) : SqT K Z' a xs := by
  rcases h with (h | ⟨o, h⟩) | h
  · exact .inl (.inl (e _ _ h))
  · exact .inl (.inr ⟨o, e _ _ h⟩)
  · exact .inr h
mutual
theorem Rp.mono {K : PySem.W.Frag} {Z Z' : Hp} {v : V} {d : D} (h : Rp K Z v d) (e : Same Z Z') : Rp K Z' v d := match h with
  | .non => .non
  | .bl _ => .bl _
  | .int _ => .int _
  | .str _ => .str _
  | .lst h1 h2 => .lst (e _ _ h1) (RpA.mono h2 e)
  | .tup h1 h2 => .tup (e _ _ h1) (RpA.mono h2 e)
  | .dk h1 h2 h3 => .dk (e _ _ h1) h2 (RpA.mono h3 e)
  | .dt h1 h2 h3 => .dt (e _ _ h1) h2 (RpA.mono h3 e)
  | .ob h1 h2 h3 h4 => .ob (e _ _ h1) (e _ _ h2) h3 (RpA.mono h4 e)
theorem RpA.mono {K : PySem.W.Frag} {Z Z' : Hp} {vs : List V} {ds : List D} (h : RpA K Z vs ds) (e : Same Z Z') : RpA K Z' vs ds := match h with
  | .nil => .nil
  | .cons h1 h2 => .cons (Rp.mono h1 e) (RpA.mono h2 e)
end
mutual
/-- no dict is in it -/
def noDict : D → Bool
  | .list ds => noDictA ds
  | .tuple ds => noDictA ds
  | .dict _ => false
  | _ => true
def noDictA : List D → Bool
  | [] => true
  | d :: ds => noDict d && noDictA ds
end
mutual
theorem Rp.dp {K : PySem.W.Frag} {Z : Hp} {v : V} {d : D} (h : Rp K Z v d) (n : noDict d = true) : Dp K Z v d := match h with
  | .non => .non
  | .bl _ => .bl _
  | .int _ => .int _
  | .str _ => .str _
  | .lst h1 h2 => .lst (SqL.of h1) (RpA.dp h2 n)
  | .tup h1 h2 => .tup (SqT.of h1) (RpA.dp h2 n)
  | .dk _ _ _ => by simp [noDict] at n
  | .dt _ _ _ => by simp [noDict] at n
  | .ob _ _ _ _ => by simp [obD, noDict] at n
theorem RpA.dp {K : PySem.W.Frag} {Z : Hp} {vs : List V} {ds : List D} (h : RpA K Z vs ds) (n : noDictA ds = true) : DpAll K Z vs ds := match h with
  | .nil => .nil
  | .cons h1 h2 => by
    simp only [noDictA, Bool.and_eq_true] at n
    exact .cons (Rp.dp h1 n.1) (RpA.dp h2 n.2)
end
theorem RpA.length {K : PySem.W.Frag} {Z : Hp} : ∀ {ds : List D} {vs : List V}, RpA K Z vs ds → vs.length = ds.length
  | [], _, h => by cases h; rfl
  | d :: ds, _, h => by
    cases h with
    | cons h1 h2 => simp [RpA.length h2]
theorem RpA.get {K : PySem.W.Frag} {Z : Hp} : ∀ {ds : List D} {vs : List V} {i : Nat} {d : D}, RpA K Z vs ds → ds[i]? = some d → ∃ v, vs[i]? = some v ∧ Rp K Z v d
  | [], _, _, _, h, e => by simp at e
  | d :: ds, _, 0, _, h, e => by
    cases h with
    | cons h1 h2 => simp at e; subst e; exact ⟨_, rfl, h1⟩
  | d :: ds, _, i + 1, _, h, e => by
    cases h with
    | cons h1 h2 =>
      obtain ⟨v, q1, q2⟩ := RpA.get h2 (by simpa using e)
      exact ⟨v, by simpa using q1, q2⟩
theorem RpA.getV {K : PySem.W.Frag} {Z : Hp} : ∀ {ds : List D} {vs : List V} {i : Nat} {v : V}, RpA K Z vs ds → vs[i]? = some v → ∃ d, ds[i]? = some d ∧ Rp K Z v d
  | [], _, _, _, h, e => by cases h; simp at e
  | d :: ds, _, 0, _, h, e => by
    cases h with
    | cons h1 h2 => simp at e; subst e; exact ⟨_, rfl, h1⟩
  | d :: ds, _, i + 1, _, h, e => by
    cases h with
    | cons h1 h2 =>
      obtain ⟨v, q1, q2⟩ := RpA.getV h2 (by simpa using e)
      exact ⟨v, by simpa using q1, q2⟩
theorem RpA.append {K : PySem.W.Frag} {Z : Hp} : ∀ {ds es : List D} {vs us : List V}, RpA K Z vs ds → RpA K Z us es → RpA K Z (vs ++ us) (ds ++ es)
  | [], _, _, _, h, h' => by cases h; exact h'
  | d :: ds, _, _, _, h, h' => by
    cases h with
    | cons h1 h2 => exact .cons h1 (RpA.append h2 h')
theorem RpA.take {K : PySem.W.Frag} {Z : Hp} : ∀ {ds : List D} {vs : List V} (n : Nat), RpA K Z vs ds → RpA K Z (vs.take n) (ds.take n)
  | _, _, 0, h => by simp; exact .nil
  | [], _, n + 1, h => by cases h; exact .nil
  | d :: ds, _, n + 1, h => by
    cases h with
    | cons h1 h2 => exact .cons h1 (RpA.take n h2)
theorem RpA.drop {K : PySem.W.Frag} {Z : Hp} : ∀ {ds : List D} {vs : List V} (n : Nat), RpA K Z vs ds → RpA K Z (vs.drop n) (ds.drop n)
  | _, _, 0, h => by simpa using h
  | [], _, n + 1, h => by cases h; exact .nil
  | d :: ds, _, n + 1, h => by
    cases h with
    | cons h1 h2 => exact RpA.drop n h2
theorem RpA.set {K : PySem.W.Frag} {Z : Hp} : ∀ {ds : List D} {vs : List V} (n : Nat) {v : V} {d : D}, RpA K Z vs ds → Rp K Z v d → RpA K Z (vs.set n v) (ds.set n d)
  | [], _, n, _, _, h, _ => by cases h; exact .nil
  | d :: ds, _, 0, _, _, h, h' => by
    cases h with
    | cons h1 h2 => exact .cons h' h2
  | d :: ds, _, n + 1, _, _, h, h' => by
    cases h with
    | cons h1 h2 => exact .cons h1 (RpA.set n h2 h')
theorem RpA.rev {K : PySem.W.Frag} {Z : Hp} : ∀ {ds : List D} {vs : List V}, RpA K Z vs ds → RpA K Z vs.reverse ds.reverse
  | [], _, h => by cases h; exact .nil
  | d :: ds, _, h => by
    cases h with
    | cons h1 h2 =>
      rw [List.reverse_cons, List.reverse_cons]
      exact RpA.append (RpA.rev h2) (.cons h1 .nil)
theorem RpA.rep {K : PySem.W.Frag} {Z : Hp} {ds : List D} {vs : List V} (h : RpA K Z vs ds) : ∀ k : Nat, RpA K Z (List.replicate k vs).flatten (List.replicate k ds).flatten
  | 0 => .nil
  | k + 1 => by
    rw [List.replicate_succ, List.flatten_cons, List.replicate_succ, List.flatten_cons]
    exact h.append (RpA.rep h k)
theorem RpA.eraseIdx {K : PySem.W.Frag} {Z : Hp} : ∀ {ds : List D} {vs : List V} (n : Nat), RpA K Z vs ds → RpA K Z (vs.eraseIdx n) (ds.eraseIdx n)
  | [], _, n, h => by cases h; exact .nil
  | d :: ds, _, 0, h => by
    cases h with
    | cons h1 h2 => exact h2
  | d :: ds, _, n + 1, h => by
    cases h with
    | cons h1 h2 => exact .cons h1 (RpA.eraseIdx n h2)

/-! ### slots and configurations -/
inductive Slot where
  | un
  | dat (d : D)
  | own (ds : List D)
  | dic (t : Bool) (es : List (D × D))
  | obj (a dx : Addr) (cls : Str) (ns : List Str) (ds : List D)
  | drw (a : Addr) (k : Int) (ns : List Int)
structure Cfg where
  Z : Hp
  H : Hp
  F : List Addr
/-- a dict as it stands at p -/
def DicAt (K : PySem.W.Frag) (Z : Hp) (o : Option HO) : Bool → List (D × D) → Prop
  | false, es => ∃ (ks : List Key) (vs : List V) (ds : List D), o = some (.dK (ks.zip vs)) ∧ ks.length = ds.length ∧ RpA K Z vs ds ∧ es = (ks.map kD).zip ds
  | true, es => ∃ (ks : List (List Key)) (vs : List V) (ds : List D), o = some (.dT (ks.zip vs)) ∧ ks.length = ds.length ∧ RpA K Z vs ds ∧ es = (ks.map kTD).zip ds
theorem DicAt.mono {K : PySem.W.Frag} {Z Z' : Hp} {o : Option HO} (e : Same Z Z') : ∀ {t : Bool} {es : List (D × D)}, DicAt K Z o t es → DicAt K Z' o t es
  | false, _, ⟨ks, vs, ds, h1, h2, h3, h4⟩ => ⟨ks, vs, ds, h1, h2, h3.mono e, h4⟩
  | true, _, ⟨ks, vs, ds, h1, h2, h3, h4⟩ => ⟨ks, vs, ds, h1, h2, h3.mono e, h4⟩
theorem DicAt.obj {K : PySem.W.Frag} {Z : Hp} {o : Option HO} : ∀ {t : Bool} {es : List (D × D)}, DicAt K Z o t es → ∃ u, o = some u ∧ Mut (some u) ∧ ∀ xs, u ≠ .tup xs
  | false, _, ⟨ks, vs, ds, h1, h2, h3, h4⟩ => ⟨_, h1, trivial, fun xs e => by cases e⟩
  | true, _, ⟨ks, vs, ds, h1, h2, h3, h4⟩ => ⟨_, h1, trivial, fun xs e => by cases e⟩
def SlotOk (K : PySem.W.Frag) (c : Cfg) : Slot → Option V → List Addr → Prop
  | .un, _, F => F = []
  | .dat d, x, F => F = [] ∧ ∃ v, x = some v ∧ Rp K c.Z v d
  | .own ds, x, F => ∃ p vs, F = [p] ∧ x = some (.ref p) ∧ c.H p = some (.lst vs) ∧ RpA K c.Z vs ds
  | .dic t es, x, F => ∃ p, F = [p] ∧ x = some (.ref p) ∧ DicAt K c.Z (c.H p) t es
  | .obj a dx cls ns ds, x, F => ∃ vs, F = [a, dx] ∧ x = some (.ref a) ∧ c.H a = some (.ins (He.ga K cls) dx (ns.zip vs)) ∧ c.H dx = some (.own a) ∧ ns.length = ds.length ∧ RpA K c.Z vs ds
  | .drw a k ns, x, F => ∃ b, F = [a, b] ∧ x = some (.ref a) ∧ c.H a = some (.lst [.int k, .ref b]) ∧ c.H b = some (.lst (ns.map V.int))
inductive HoldsL (K : PySem.W.Frag) (c : Cfg) : List Slot → St → List Addr → Prop
  | nil : HoldsL K c [] [] []
  | cons {s : Slot} {x : Option V} {F1 F2 : List Addr} {S : List Slot} {σ : St} : SlotOk K c s x F1 → HoldsL K c S σ F2 → HoldsL K c (s :: S) (x :: σ) (F1 ++ F2)
structure Holds (K : PySem.W.Frag) (S : List Slot) (σ : St) (c : Cfg) : Prop where
  l : HoldsL K c S σ c.F
  nd : c.F.Nodup
  zf : ∀ a ∈ c.F, c.Z a = none
  zh : Same c.Z c.H
structure Stp (c c' : Cfg) : Prop where
  z : Same c.Z c'.Z
  k : ∀ b o, c.H b = some o → b ∉ c.F → c'.H b = some o
  t : ∀ b o, c.H b = some o → ∃ o', c'.H b = some o'
  n : ∀ b o, c'.Z b = some o → c.Z b = some o ∨ c.H b = none ∨ b ∈ c.F ∨ ∃ xs, c.H b = some (.tup xs)
  f : ∀ b ∈ c'.F, b ∈ c.F ∨ c.H b = none
theorem Stp.refl (c : Cfg) : Stp c c := ⟨Same.refl _, fun _ _ h _ => h, fun _ o h => ⟨o, h⟩, fun _ _ h => .inl h, fun _ h => .inl h⟩
theorem Stp.was {c c' : Cfg} (a : Stp c c') {b : Addr} (h : c'.H b = none) : c.H b = none := by
  cases q : c.H b with
  | none => rfl
  | some o =>
    obtain ⟨o', e⟩ := a.t b o q
    rw [h] at e
    cases e
theorem Stp.trans {c c' c'' : Cfg} (a : Stp c c') (b : Stp c' c'') : Stp c c'' where
  z := a.z.trans b.z
  k := fun x o h hn => b.k x o (a.k x o h hn) fun hm => by
    rcases a.f x hm with z | z
    · exact hn z
    · rw [h] at z
      cases z
  t := fun x o h => by
    obtain ⟨o', e⟩ := a.t x o h
    exact b.t x o' e
  n := fun x o h => by
    rcases b.n x o h with z | z | z | ⟨xs, z⟩
    · exact a.n x o z
    · exact .inr (.inl (a.was z))
    · rcases a.f x z with z | z
      · exact .inr (.inr (.inl z))
      · exact .inr (.inl z)
    · cases q : c.H x with
      | none => exact .inr (.inl rfl)
      | some u =>
        by_cases m : x ∈ c.F
        · exact .inr (.inr (.inl m))
        · have q2 := a.k x u q m
          rw [z] at q2
          cases q2
          exact .inr (.inr (.inr ⟨xs, rfl⟩))
  f := fun x h => by
    rcases b.f x h with z | z
    · exact a.f x z
    · exact .inr (a.was z)
theorem SlotOk.tr {K : PySem.W.Frag} {c c' : Cfg} {s : Slot} {x : Option V} {F : List Addr} (h : SlotOk K c s x F) (z : Same c.Z c'.Z) (e : ∀ a ∈ F, c'.H a = c.H a) : SlotOk K c' s x F := by
  cases s with
  | un => exact h
  | dat d =>
    obtain ⟨h1, v, h2, h3⟩ := h
    exact ⟨h1, v, h2, h3.mono z⟩
  | own ds =>
    obtain ⟨p, vs, h1, h2, h3, h4⟩ := h
    subst h1
    exact ⟨p, vs, rfl, h2, (e p (List.mem_cons_self)).trans h3, h4.mono z⟩
  | dic t es =>
    obtain ⟨p, h1, h2, h3⟩ := h
    subst h1
    refine ⟨p, rfl, h2, ?_⟩
    rw [e p (List.mem_cons_self)]
    exact h3.mono z
  | obj a dx cls ns ds =>
    obtain ⟨vs, h1, h2, h3, h4, h5, h6⟩ := h
    subst h1
    exact ⟨vs, rfl, h2, (e a (by simp)).trans h3, (e dx (by simp)).trans h4, h5, h6.mono z⟩
  | drw a k ns =>
    obtain ⟨b, h1, h2, h3, h4⟩ := h
    subst h1
    exact ⟨b, rfl, h2, (e a (by simp)).trans h3, (e b (by simp)).trans h4⟩
theorem HoldsL.tr {K : PySem.W.Frag} {c c' : Cfg} (z : Same c.Z c'.Z) : ∀ {S : List Slot} {σ : St} {F : List Addr}, HoldsL K c S σ F → (∀ a ∈ F, c'.H a = c.H a) → HoldsL K c' S σ F
  | _, _, _, .nil, _ => .nil
  | _, _, _, .cons h t, e => .cons (h.tr z fun a m => e a (List.mem_append_left _ m)) (HoldsL.tr z t fun a m => e a (List.mem_append_right _ m))
theorem HoldsL.len {K : PySem.W.Frag} {c : Cfg} : ∀ {S : List Slot} {σ : St} {F : List Addr}, HoldsL K c S σ F → σ.length = S.length
  | _, _, _, .nil => rfl
  | _, _, _, .cons _ t => by simp [HoldsL.len t]
theorem HoldsL.at {K : PySem.W.Frag} {c : Cfg} : ∀ {S : List Slot} {σ : St} {F : List Addr} {i : Nat} {s : Slot}, HoldsL K c S σ F → S[i]? = some s →
    ∃ A Fi B x, F = A ++ (Fi ++ B) ∧ σ[i]? = some x ∧ SlotOk K c s x Fi ∧
      ∀ (c' : Cfg) s' x' F', Same c.Z c'.Z → (∀ a ∈ A ++ B, c'.H a = c.H a) → SlotOk K c' s' x' F' → HoldsL K c' (S.set i s') (σ.set i x') (A ++ (F' ++ B))
  | _, _, _, i, _, .nil, e => by simp at e
  | _, _, _, 0, s, .cons (F1 := F1) (F2 := F2) h t, e => by
    simp at e
    subst e
    refine ⟨[], F1, F2, _, rfl, rfl, h, fun c' s' x' F' z q o => ?_⟩
    rw [List.nil_append]
    exact .cons o (t.tr z fun a m => q a (by simpa using m))
  | _, _, _, i + 1, s, .cons (F1 := F1) (F2 := F2) h t, e => by
    obtain ⟨A, Fi, B, x, e1, e2, o, up⟩ := HoldsL.at (i := i) (s := s) t (by simpa using e)
    subst e1
    refine ⟨F1 ++ A, Fi, B, x, by simp, by simpa using e2, o, fun c' s' x' F' z q o' => ?_⟩
    rw [List.set_cons_succ, List.set_cons_succ, List.append_assoc]
    exact .cons (h.tr z fun a m => q a (by simp [m])) (up c' s' x' F' z (fun a m => q a (by simp at m; rcases m with m | m <;> simp [m])) o')
/-- a new object, frozen at once -/
def Cfg.lay (c : Cfg) (p : Addr) (o : HO) : Cfg := ⟨upd c.Z p o, upd c.H p o, c.F⟩
/-- a new object, kept apart -/
def Cfg.tmp (c : Cfg) (p : Addr) (o : HO) : Cfg := ⟨c.Z, upd c.H p o, c.F⟩
theorem same_upd {H : Hp} {p : Addr} {o : HO} (h : H p = none) : Same H (upd H p o) := fun b x e => by
  rw [upd_ne (ne_of_none e h)]
  exact e
theorem Holds.nf {K : PySem.W.Frag} {S : List Slot} {σ : St} {c : Cfg} (h : Holds K S σ c) {p : Addr} (hp : c.H p = none) : c.Z p = none := h.zh.free hp
theorem HoldsL.own {K : PySem.W.Frag} {c : Cfg} : ∀ {S : List Slot} {σ : St} {F : List Addr}, HoldsL K c S σ F → ∀ a ∈ F, ∃ o, c.H a = some o ∧ ∀ xs, o ≠ .tup xs
  | _, _, _, .nil, a, m => by simp at m
  | _, _, _, .cons (s := s) h t, a, m => by
    rcases List.mem_append.mp m with m | m
    · cases s with
      | un => subst h; simp at m
      | dat d =>
        obtain ⟨h1, _⟩ := h
        subst h1
        simp at m
      | own ds =>
        obtain ⟨p, vs, h1, h2, h3, h4⟩ := h
        subst h1
        simp at m
        subst m
        exact ⟨_, h3, fun xs e => by cases e⟩
      | dic t es =>
        obtain ⟨p, h1, h2, h3⟩ := h
        subst h1
        simp at m
        subst m
        obtain ⟨u, e1, _, e2⟩ := h3.obj
        exact ⟨u, e1, e2⟩
      | obj a' dx cls ns ds =>
        obtain ⟨vs, h1, h2, h3, h4, h5, h6⟩ := h
        subst h1
        simp at m
        rcases m with m | m
        · subst m
          exact ⟨_, h3, fun xs e => by cases e⟩
        · subst m
          exact ⟨_, h4, fun xs e => by cases e⟩
      | drw a' k ns =>
        obtain ⟨b, h1, h2, h3, h4⟩ := h
        subst h1
        simp at m
        rcases m with m | m
        · subst m
          exact ⟨_, h3, fun xs e => by cases e⟩
        · subst m
          exact ⟨_, h4, fun xs e => by cases e⟩
    · exact HoldsL.own t a m
theorem Holds.nF {K : PySem.W.Frag} {S : List Slot} {σ : St} {c : Cfg} (h : Holds K S σ c) {p : Addr} (hp : c.H p = none) : p ∉ c.F := fun m => by
  obtain ⟨o, e, _⟩ := h.l.own p m
  rw [hp] at e
  cases e
theorem Holds.lay {K : PySem.W.Frag} {S : List Slot} {σ : St} {c : Cfg} (h : Holds K S σ c) {p : Addr} {o : HO} (hp : c.H p = none) : Stp c (c.lay p o) ∧ Holds K S σ (c.lay p o) := by
  have hz := h.nf hp
  have hF := h.nF hp
  refine ⟨⟨same_upd hz, fun b x e _ => same_upd hp b x e, fun b x e => ⟨x, same_upd hp b x e⟩, fun b x e => ?_, fun b m => .inl m⟩, ⟨?_, h.nd, fun a m => ?_, ?_⟩⟩
  · by_cases hb : b = p
    · subst hb
      exact .inr (.inl hp)
    · have e' : upd c.Z p o b = some x := e
      rw [upd_ne hb] at e'
      exact .inl e'
  · refine h.l.tr (same_upd hz) fun a m => ?_
    have ne : a ≠ p := fun z => hF (z ▸ m)
    exact upd_ne ne
  · have ne : a ≠ p := fun z => hF (z ▸ m)
    show upd c.Z p o a = none
    rw [upd_ne ne]
    exact h.zf a m
  · intro b x e
    show upd c.H p o b = some x
    by_cases hb : b = p
    · subst hb
      have e' : upd c.Z b o b = some x := e
      rw [upd_same] at e' ⊢
      exact e'
    · have e' : upd c.Z p o b = some x := e
      rw [upd_ne hb] at e' ⊢
      exact h.zh b x e'
theorem Holds.tmp {K : PySem.W.Frag} {S : List Slot} {σ : St} {c : Cfg} (h : Holds K S σ c) {p : Addr} {o : HO} (hp : p ∉ c.F) (hz : c.Z p = none) (hk : ∀ x, c.H p = some x → ∃ y, o = y) : Holds K S σ (c.tmp p o) := by
  refine ⟨HoldsL.tr (c' := c.tmp p o) (Same.refl c.Z) h.l fun a m => upd_ne (show a ≠ p from fun z => hp (z ▸ m)), h.nd, h.zf, fun b x e => ?_⟩
  show upd c.H p o b = some x
  have ne : b ≠ p := fun z => by
    subst z
    have e' : c.Z b = some x := e
    rw [hz] at e'
    cases e'
  rw [upd_ne ne]
  exact h.zh b x e
theorem Holds.tmpS {K : PySem.W.Frag} {S : List Slot} {σ : St} {c : Cfg} (h : Holds K S σ c) {p : Addr} {o : HO} (hp : c.H p = none) : Stp c (c.tmp p o) ∧ Holds K S σ (c.tmp p o) :=
  ⟨⟨Same.refl _, fun b x e _ => same_upd hp b x e, fun b x e => ⟨x, same_upd hp b x e⟩, fun b x e => .inl e, fun b m => .inl m⟩, h.tmp (h.nF hp) (h.nf hp) fun _ _ => ⟨_, rfl⟩⟩

/-! ### what an expression, a statement is worth -/
structure Exn where
  cls : String
  fs : List (Str × V)
inductive Er (α : Type) where
  | ok (a : α) (S : List Slot)
  | ex (e : Exn) (S : List Slot)
  | bad
abbrev EM (α : Type) := List Slot → Er α
def eRet {α : Type} (a : α) : EM α := fun S => .ok a S
def eOpt {α : Type} : Option α → EM α
  | some a => fun S => .ok a S
  | none => fun _ => .bad
def eBind {α β : Type} (m : EM α) (g : α → EM β) : EM β := fun S => match m S with
  | .ok a S' => g a S'
  | .ex e S' => .ex e S'
  | .bad => .bad
inductive Out where
  | nx (S : List Slot)
  | rt (d : D) (S : List Slot)
  | bk (S : List Slot)
  | ct (S : List Slot)
  | ex (e : Exn) (S : List Slot)
  | bad
abbrev SM := List Slot → Out

structure Gx where
  K : PySem.W.Frag
  mg : Str → Option Value
  W : WX
/-- an exception as it lies -/
def ExOk (mg : Str → Option Value) (H : Hp) (e : Exn) (cls : Value) (dx : Option Addr) : Prop :=
  ∃ C d, mg (Str.ofString e.cls) = some (.ref C) ∧ cls = .ref C ∧ dx = some d ∧ H d = some (.xd e.fs)
def Go {α : Type} (G : Gx) (σ : St) (c : Cfg) (r : Er α) (P : α → List Slot → Cfg → Prop) : Prop := match r with
  | .ok a S => ∀ c', Stp c c' → Holds G.K S σ c' → P a S c'
  | .ex e S => ∀ c' cls dx, Stp c c' → Holds G.K S σ c' → ExOk G.mg c'.H e cls dx → G.W cls dx σ c'.H
  | .bad => False
theorem Go.step {α : Type} {G : Gx} {σ : St} {c c1 : Cfg} {r : Er α} {P : α → List Slot → Cfg → Prop} (h : Go G σ c r P) (s : Stp c c1) : Go G σ c1 r P := by
  cases r with
  | ok a S => exact fun c' s' o => h c' (s.trans s') o
  | ex e S => exact fun c' cls dx s' o x => h c' cls dx (s.trans s') o x
  | bad => exact h
theorem Go.mono {α : Type} {G : Gx} {σ : St} {c : Cfg} {r : Er α} {P P' : α → List Slot → Cfg → Prop} (h : Go G σ c r P) (i : ∀ a S c', Stp c c' → Holds G.K S σ c' → P a S c' → P' a S c') : Go G σ c r P' := by
  cases r with
  | ok a S => exact fun c' s' o => i a S c' s' o (h c' s' o)
  | ex e S => exact h
  | bad => exact h
theorem Go.bind {α β : Type} {G : Gx} {σ : St} {c : Cfg} {m : EM α} {g : α → EM β} {S : List Slot} {P : β → List Slot → Cfg → Prop} (h : Go G σ c (eBind m g S) P) :
    Go G σ c (m S) (fun a S1 c1 => Go G σ c1 (g a S1) P) := by
  unfold eBind at h
  cases q : m S with
  | ok a S' =>
    rw [q] at h
    exact fun c' s' o => Go.step h s'
  | ex e S' =>
    rw [q] at h
    exact h
  | bad =>
    rw [q] at h
    exact h.elim
/-- the value of data is wanted -/
abbrev VP (G : Gx) (Q : VK) : D → List Slot → Cfg → Prop := fun d _ c' => ∀ v, Rp G.K c'.Z v d → Q v c'.H
def tD (G : Gx) (f : EM D) : TE := fun σ H Q => ∃ S Z F, Holds G.K S σ ⟨Z, H, F⟩ ∧ Go G σ ⟨Z, H, F⟩ (f S) (VP G Q)
def tB' (G : Gx) (f : EM Bool) : TT := fun σ H Q => ∃ S Z F, Holds G.K S σ ⟨Z, H, F⟩ ∧ Go G σ ⟨Z, H, F⟩ (f S) (fun b _ c' => Q b c'.H)
def tDs (G : Gx) (f : EM (List D)) : TA := fun σ H Q => ∃ S Z F, Holds G.K S σ ⟨Z, H, F⟩ ∧ Go G σ ⟨Z, H, F⟩ (f S) (fun ds _ c' => ∀ vs, RpA G.K c'.Z vs ds → Q vs c'.H)
def GoS (G : Gx) (c : Cfg) (Q : Ends) : Out → Prop
  | .nx S => ∀ σ' c', Stp c c' → Holds G.K S σ' c' → Q.nx σ' c'.H
  | .rt d S => ∀ σ' c' v, Stp c c' → Holds G.K S σ' c' → Rp G.K c'.Z v d → Q.rt v c'.H
  | .bk S => ∀ σ' c', Stp c c' → Holds G.K S σ' c' → Q.bk σ' c'.H
  | .ct S => ∀ σ' c', Stp c c' → Holds G.K S σ' c' → Q.ct σ' c'.H
  | .ex e S => ∀ σ' c' cls dx, Stp c c' → Holds G.K S σ' c' → ExOk G.mg c'.H e cls dx → G.W cls dx σ' c'.H
  | .bad => False
theorem GoS.step {G : Gx} {c c1 : Cfg} {Q : Ends} {r : Out} (h : GoS G c Q r) (s : Stp c c1) : GoS G c1 Q r := by
  cases r with
  | nx S => exact fun σ' c' s' o => h σ' c' (s.trans s') o
  | rt d S => exact fun σ' c' v s' o x => h σ' c' v (s.trans s') o x
  | bk S => exact fun σ' c' s' o => h σ' c' (s.trans s') o
  | ct S => exact fun σ' c' s' o => h σ' c' (s.trans s') o
  | ex e S => exact fun σ' c' cls dx s' o x => h σ' c' cls dx (s.trans s') o x
  | bad => exact h
def tS (G : Gx) (f : SM) : TS := fun Q σ H => ∃ S Z F, Holds G.K S σ ⟨Z, H, F⟩ ∧ GoS G ⟨Z, H, F⟩ Q (f S)
theorem Go.toS {α : Type} {G : Gx} {σ : St} {c : Cfg} {Q : Ends} {r : Er α} {k : α → List Slot → Out} {P : α → List Slot → Cfg → Prop}
    (h : GoS G c Q (match r with | .ok a S => k a S | .ex e S => .ex e S | .bad => .bad)) (i : ∀ a S c', Stp c c' → Holds G.K S σ c' → GoS G c' Q (k a S) → P a S c') : Go G σ c r P := by
  cases r with
  | ok a S => exact fun c' s o => i a S c' s o (h.step s)
  | ex e S => exact fun c' cls dx s o x => h σ c' cls dx s o x
  | bad => exact h.elim

/-! ### weaker readings -/
theorem PE.wk {X : Cx} {e : Expr} {t t' : TE} (h : PE X e t) (i : ∀ σ H Q, t' σ H Q → t σ H Q) : PE X e t' := ⟨fun pins s σ H Q I q => h.run pins s σ H Q I (i _ _ _ q)⟩
theorem PT.wk {X : Cx} {e : Expr} {t t' : TT} (h : PT X e t) (i : ∀ σ H Q, t' σ H Q → t σ H Q) : PT X e t' := ⟨fun pins s σ H Q I q => h.run pins s σ H Q I (i _ _ _ q)⟩
theorem PW.wk {X : Cx} {e : Expr} {t t' : TT} (h : PW X e t) (i : ∀ σ H Q, t' σ H Q → t σ H Q) : PW X e t' := ⟨fun wh pins s σ H Q I q => h.run wh pins s σ H Q I (i _ _ _ q)⟩
theorem PA.wk {X : Cx} {es : List Expr} {t t' : TA} (h : PA X es t) (i : ∀ σ H Q, t' σ H Q → t σ H Q) : PA X es t' := ⟨fun pos pins s σ H Q I q => h.run pos pins s σ H Q I (i _ _ _ q)⟩
theorem PS.wk {X : Cx} {st : Stmt} {t t' : TS} (h : PS X st t) (i : ∀ Q σ H, t' Q σ H → t Q σ H) : PS X st t' := ⟨fun pins s σ H Q I q => h.run pins s σ H Q I (i _ _ _ q)⟩
theorem PSs.wk {X : Cx} {st : List Stmt} {t t' : TS} (h : PSs X st t) (i : ∀ Q σ H, t' Q σ H → t Q σ H) : PSs X st t' := ⟨fun pins s σ H Q I q => h.run pins s σ H Q I (i _ _ _ q)⟩
end FW

/-! FwB: expressions. -/
namespace FW
open PySem PySem.Spec L2
open PyProof.Rows hiding St
abbrev gx (X : Cx) (W : WX) : Gx := ⟨X.K, X.mg, W⟩
section
variable {X : Cx} {W : WX}
def DE (X : Cx) (W : WX) (e : Expr) (f : EM D) : Prop := PE X e (tD (gx X W) f)
def DT (X : Cx) (W : WX) (e : Expr) (f : EM Bool) : Prop := PT X e (tB' (gx X W) f)
def DA (X : Cx) (W : WX) (es : List Expr) (f : EM (List D)) : Prop := PA X es (tDs (gx X W) f)

/-! ### names and constants -/
def eV (i : Nat) : EM D := fun S => match S[i]? with
  | some (.dat d) => .ok d S
  | some (.own ds) => .ok (.list ds) (S.set i (.dat (.list ds)))
  | some (.dic t es) => .ok (dictD t es) (S.set i (.dat (dictD t es)))
  | _ => .bad
theorem Holds.datAt {K : PySem.W.Frag} {S : List Slot} {σ : L2.St} {c : Cfg} {i : Nat} {d : D} (h : Holds K S σ c) (e : S[i]? = some (.dat d)) : ∃ v, σ[i]? = some (some v) ∧ Rp K c.Z v d := by
  obtain ⟨A, Fi, B, x, _, e2, ⟨_, v, e3, r⟩, _⟩ := h.l.at e
  subst e3
  exact ⟨v, e2, r⟩
theorem list_set_self {α : Type} {l : List α} {i : Nat} {x : α} (h : l[i]? = some x) : l.set i x = l := by
  apply List.ext_getElem?
  intro j
  rw [List.getElem?_set]
  split
  · rename_i e
    subst e
    rw [h]
    split
    · rfl
    · rename_i hn
      rw [List.getElem?_eq_none (by omega)] at h
      cases h
  · rfl
/-- a list that is held alone is given free: it stays as it is from now on -/
theorem Holds.freeze {K : PySem.W.Frag} {S : List Slot} {σ : L2.St} {c : Cfg} {i : Nat} {ds : List D} (h : Holds K S σ c) (e : S[i]? = some (.own ds)) :
    ∃ p c', σ[i]? = some (some (.ref p)) ∧ c'.H = c.H ∧ Stp c c' ∧ Holds K (S.set i (.dat (.list ds))) σ c' ∧ Rp K c'.Z (.ref p) (.list ds) := by
  obtain ⟨A, Fi, B, x, e1, e2, ⟨p, vs, e3, e4, e5, e6⟩, up⟩ := h.l.at e
  subst e3 e4
  have nd := h.nd
  have zf := h.zf
  rw [e1] at nd zf
  have hz : c.Z p = none := zf p (by simp)
  have sm : Same c.Z (upd c.Z p (.lst vs)) := same_upd hz
  have r : Rp K (upd c.Z p (.lst vs)) (.ref p) (.list ds) := .lst upd_same (e6.mono sm)
  refine ⟨p, ⟨upd c.Z p (.lst vs), c.H, A ++ B⟩, e2, rfl, ⟨sm, fun _ _ q _ => q, fun _ o q => ⟨o, q⟩, fun b o q => ?_, fun b m => .inl ?_⟩, ⟨?_, ?_, fun a m => ?_, fun b o q => ?_⟩, r⟩
  · by_cases hb : b = p
    · subst hb
      exact .inr (.inr (by rw [e1]; simp))
    · have q' : upd c.Z p (.lst vs) b = some o := q
      rw [upd_ne hb] at q'
      exact .inl q'
  · rw [e1]
    have m' : b ∈ A ++ B := m
    simp at m' ⊢
    rcases m' with m' | m' <;> simp [m']
  · have q := up ⟨upd c.Z p (.lst vs), c.H, A ++ B⟩ (.dat (.list ds)) (some (.ref p)) [] sm (fun _ _ => rfl) ⟨rfl, _, rfl, r⟩
    rw [list_set_self e2] at q
    exact q
  · show (A ++ B).Nodup
    simp only [List.nodup_append, List.nodup_cons, List.mem_append, List.mem_cons] at nd ⊢
    grind
  · have m' : a ∈ A ++ B := m
    have ne : a ≠ p := by
      rintro rfl
      simp only [List.nodup_append, List.nodup_cons, List.mem_append, List.mem_cons] at nd m'
      grind
    show upd c.Z p (.lst vs) a = none
    rw [upd_ne ne]
    exact zf a (by simp at m' ⊢; rcases m' with m' | m' <;> simp [m'])
  · have q' : upd c.Z p (.lst vs) b = some o := q
    by_cases hb : b = p
    · subst hb
      rw [upd_same] at q'
      rw [← q']
      exact e5
    · rw [upd_ne hb] at q'
      exact h.zh b o q'
/-- behind an expression a thing may be locked for good -/
def tFrz (t : TE) : TE := fun σ H Q => t σ H fun v H1 => Q v H1 ∨ ∃ d u, H1 d = some u ∧ Mut (some u) ∧ ∀ od, Q v (upd H1 d (.frz od u))
theorem pe_frz {e : Expr} {t : TE} (h : PE X e t) : PE X e (tFrz t) := by
  refine ⟨fun pins s σ H Q I hw => ?_⟩
  refine thn (h.run pins s σ _ _ I hw) fun v s1 ⟨x, H1, I1, r, q⟩ => ?_
  rcases q with q | ⟨d, u, hd, mu, q⟩
  · exact ⟨x, H1, I1, r, q⟩
  · obtain ⟨od, I2⟩ := I1.lock hd mu
    exact ⟨x, _, I2, r, q od⟩
theorem DicAt.lockR {K : PySem.W.Frag} {Z : Hp} {u : HO} {p : Addr} {o : Obj} : ∀ {t : Bool} {es : List (D × D)}, DicAt K Z (some u) t es → Z p = some (.frz o u) → Rp K Z (.ref p) (dictD t es)
  | false, _, ⟨ks, vs, ds, h1, h2, h3, h4⟩, e => by
    cases h1
    subst h4
    exact .dk e h2 h3
  | true, _, ⟨ks, vs, ds, h1, h2, h3, h4⟩, e => by
    cases h1
    subst h4
    exact .dt e h2 h3
/-- a dict that is held alone is given free -/
theorem Holds.freezeD {K : PySem.W.Frag} {S : List Slot} {σ : L2.St} {c : Cfg} {i : Nat} {t : Bool} {es : List (D × D)} (h : Holds K S σ c) (e : S[i]? = some (.dic t es)) :
    ∃ p u, σ[i]? = some (some (.ref p)) ∧ c.H p = some u ∧ Mut (some u) ∧ ∀ od, ∃ c', c'.H = upd c.H p (.frz od u) ∧ Stp c c' ∧ Holds K (S.set i (.dat (dictD t es))) σ c' ∧ Rp K c'.Z (.ref p) (dictD t es) := by
  obtain ⟨A, Fi, B, x, e1, e2, ⟨p, e3, e4, e5⟩, up⟩ := h.l.at e
  subst e3 e4
  obtain ⟨u, e6, mu, _⟩ := e5.obj
  refine ⟨p, u, e2, e6, mu, fun od => ?_⟩
  have nd := h.nd
  have zf := h.zf
  rw [e1] at nd zf
  have hz : c.Z p = none := zf p (by simp)
  have sm : Same c.Z (upd c.Z p (.frz od u)) := same_upd hz
  have r : Rp K (upd c.Z p (.frz od u)) (.ref p) (dictD t es) := by
    rw [e6] at e5
    exact (e5.mono sm).lockR upd_same
  have ne : ∀ a ∈ A ++ B, a ≠ p := fun a m => by
    rintro rfl
    simp only [List.nodup_append, List.nodup_cons, List.mem_append, List.mem_cons] at nd m
    grind
  refine ⟨⟨upd c.Z p (.frz od u), upd c.H p (.frz od u), A ++ B⟩, rfl, ⟨sm, fun b o q hn => ?_, fun b o q => ?_, fun b o q => ?_, fun b m => .inl ?_⟩, ⟨?_, ?_, fun a m => ?_, fun b o q => ?_⟩, r⟩
  · exact (upd_ne (show b ≠ p from fun z => hn (by rw [z, e1]; simp))).trans q
  · by_cases hb : b = p
    · subst hb
      exact ⟨_, upd_same⟩
    · exact ⟨o, (upd_ne hb).trans q⟩
  · by_cases hb : b = p
    · subst hb
      exact .inr (.inr (.inl (by rw [e1]; simp)))
    · have q' : upd c.Z p (.frz od u) b = some o := q
      rw [upd_ne hb] at q'
      exact .inl q'
  · rw [e1]
    have m' : b ∈ A ++ B := m
    simp at m' ⊢
    rcases m' with m' | m' <;> simp [m']
  · have q := up ⟨upd c.Z p (.frz od u), upd c.H p (.frz od u), A ++ B⟩ (.dat (dictD t es)) (some (.ref p)) [] sm (fun a m => upd_ne (ne a m)) ⟨rfl, _, rfl, r⟩
    rw [list_set_self e2] at q
    exact q
  · show (A ++ B).Nodup
    simp only [List.nodup_append, List.nodup_cons, List.mem_append, List.mem_cons] at nd ⊢
    grind
  · show upd c.Z p (.frz od u) a = none
    rw [upd_ne (ne a m)]
    exact zf a (by have m' : a ∈ A ++ B := m; simp at m' ⊢; rcases m' with m' | m' <;> simp [m'])
  · have q' : upd c.Z p (.frz od u) b = some o := q
    show upd c.H p (.frz od u) b = some o
    by_cases hb : b = p
    · subst hb
      rw [upd_same] at q' ⊢
      exact q'
    · rw [upd_ne hb] at q' ⊢
      exact h.zh b o q'
theorem de_v (i : Nat) {x : Str} {pos : Pos} (hN : X.N[i]? = some x := by rfl) (hv : Vis X.env.scope x := by first | exact Or.inl rfl | exact Or.inr (Or.inl rfl) | exact Or.inr (Or.inr rfl)) (hd : (x == ("__debug__" : Str)) = false := by decide)
    (hcd : (x == ("__classdict__" : Str)) = false := by decide) : DE X W (.Name x pos) (eV i) := by
  refine PE.wk (pe_frz (pe_var hN hv hd hcd)) fun σ H Q q => ?_
  obtain ⟨S, Z, F, h, g⟩ := q
  unfold eV at g
  cases e : S[i]? with
  | none => rw [e] at g; exact g.elim
  | some s =>
    rw [e] at g
    cases s with
    | un => exact g.elim
    | drw _ _ _ => exact g.elim
    | obj _ _ _ _ _ => exact g.elim
    | dic t es =>
      obtain ⟨p, u, e2, e3, mu, back⟩ := h.freezeD e
      refine ⟨.ref p, e2, .inr ⟨p, u, e3, mu, fun od => ?_⟩⟩
      obtain ⟨c', e4, st, h', r⟩ := back od
      have q := g c' st h' (.ref p) r
      rw [e4] at q
      exact q
    | dat d =>
      obtain ⟨v, e2, r⟩ := h.datAt e
      exact ⟨v, e2, .inl (g _ (Stp.refl _) h v r)⟩
    | own ds =>
      obtain ⟨p, c', e2, e3, st, h', r⟩ := h.freeze e
      refine ⟨.ref p, e2, .inl ?_⟩
      have q := g c' st h' (.ref p) r
      rw [e3] at q
      exact q
def eC (d : D) : EM D := eRet d
theorem de_c {e : Expr} {v : V} {d : D} (h : PE X e (L2.tC v)) (r : ∀ Z, Rp X.K Z v d) : DE X W e (eC d) := by
  refine PE.wk h fun σ H Q q => ?_
  obtain ⟨S, Z, F, h, g⟩ := q
  exact g _ (Stp.refl _) h v (r _)
theorem de_int {i j pos} : DE X W (.Constant (.int i) j pos) (eC (.int i)) := de_c pe_int fun _ => .int i
theorem de_bl {b j pos} : DE X W (.Constant (.bool b) j pos) (eC (.bool b)) := de_c pe_bl fun _ => .bl b
theorem de_non {j pos} : DE X W (.Constant .none j pos) (eC .none) := de_c pe_non fun _ => .non
theorem de_str {x j pos} : DE X W (.Constant (.str x) j pos) (eC (.str x)) := de_c pe_str fun _ => .str x

/-! ### operators by values -/
/-- data as an operand: a list may be one that a slot holds alone -/
inductive Lo (K : PySem.W.Frag) (c : Cfg) : V → D → Prop
  | z {v : V} {d : D} : Rp K c.Z v d → Lo K c v d
  | o {p : Addr} {vs : List V} {ds : List D} : c.H p = some (.lst vs) → RpA K c.Z vs ds → Lo K c (.ref p) (.list ds)
  | d {p : Addr} {t : Bool} {es : List (D × D)} : DicAt K c.Z (c.H p) t es → Lo K c (.ref p) (dictD t es)
theorem Lo.noneI {K : PySem.W.Frag} {c : Cfg} {x : V} (h : Lo K c x .none) : x = .non := by
  cases h with
  | z h => cases h; rfl
theorem Lo.boolI {K : PySem.W.Frag} {c : Cfg} {x : V} {b : Bool} (h : Lo K c x (.bool b)) : x = .bl b := by
  cases h with
  | z h => cases h; rfl
theorem Lo.intI {K : PySem.W.Frag} {c : Cfg} {x : V} {i : Int} (h : Lo K c x (.int i)) : x = .int i := by
  cases h with
  | z h => cases h; rfl
theorem Lo.strI {K : PySem.W.Frag} {c : Cfg} {x : V} {z : Str} (h : Lo K c x (.str z)) : x = .str z := by
  cases h with
  | z h => cases h; rfl
theorem Lo.tupI {K : PySem.W.Frag} {c : Cfg} {x : V} {ds : List D} (h : Lo K c x (.tuple ds)) : ∃ a xs, x = .ref a ∧ SqT K c.Z a xs ∧ RpA K c.Z xs ds := by
  cases h with
  | z h =>
    cases h with
    | tup h1 h2 => exact ⟨_, _, rfl, SqT.of h1, h2⟩
theorem Lo.lstI {K : PySem.W.Frag} {c : Cfg} {x : V} {ds : List D} (sm : Same c.Z c.H) (h : Lo K c x (.list ds)) : ∃ a xs, x = .ref a ∧ c.H a = some (.lst xs) ∧ RpA K c.Z xs ds := by
  cases h with
  | z h =>
    cases h with
    | lst h1 h2 => exact ⟨_, _, rfl, sm _ _ h1, h2⟩
  | o h1 h2 => exact ⟨_, _, rfl, h1, h2⟩
theorem noDict_dictD (t : Bool) (es : List (D × D)) : noDict (dictD t es) = false := rfl
theorem Lo.dp {K : PySem.W.Frag} {c : Cfg} {x : V} {d : D} (sm : Same c.Z c.H) (h : Lo K c x d) (n : noDict d = true) : Dp K c.H x d := by
  cases h with
  | z h => exact (h.mono sm).dp n
  | o h1 h2 => exact .lst (SqL.of h1) ((h2.mono sm).dp n)
  | d h1 => rw [noDict_dictD] at n; cases n
theorem Lo.tupZ {K : PySem.W.Frag} {c : Cfg} {x : V} {ds : List D} (h : Lo K c x (.tuple ds)) : Rp K c.Z x (.tuple ds) := by
  cases h with
  | z h => exact h
/-- it is None -/
def isNoneD : D → Bool
  | .none => true
  | _ => false
theorem Lo.isNone {K : PySem.W.Frag} {c : Cfg} {x : V} {d : D} (h : Lo K c x d) : decide (x = .non) = isNoneD d := by
  cases h with
  | z h => cases h <;> simp [isNoneD, obD]
  | o h1 h2 => simp [isNoneD]
  | d h1 => simp [isNoneD, dictD]
def tLo (G : Gx) (f : EM D) : TE := fun σ H Q => ∃ S Z F, Holds G.K S σ ⟨Z, H, F⟩ ∧ Go G σ ⟨Z, H, F⟩ (f S) (fun d _ c' => ∀ v, Lo G.K c' v d → Q v c'.H)
def DL (X : Cx) (W : WX) (e : Expr) (f : EM D) : Prop := PE X e (tLo (gx X W) f)
theorem dl_e {e : Expr} {f : EM D} (h : DE X W e f) : DL X W e f := PE.wk h fun σ H Q q => by
  obtain ⟨S, Z, F, h, q⟩ := q
  exact ⟨S, Z, F, h, q.mono fun d S1 c1 _ _ q1 v rv => q1 v (.z rv)⟩
/-- a list or a dict in a slot of its own, as an operand -/
def slotO : Slot → Option D
  | .own ds => some (.list ds)
  | .dic t es => some (dictD t es)
  | _ => none
def slotAt (S : List Slot) (i : Nat) : Option D := (S[i]?).bind slotO
def eVO (i : Nat) : EM D := fun S => match slotAt S i with
  | some d => .ok d S
  | none => .bad
theorem Holds.ownAt {K : PySem.W.Frag} {S : List Slot} {σ : L2.St} {c : Cfg} {i : Nat} {ds : List D} (h : Holds K S σ c) (e : S[i]? = some (.own ds)) : ∃ p vs, σ[i]? = some (some (V.ref p)) ∧ c.H p = some (.lst vs) ∧ RpA K c.Z vs ds ∧ p ∈ c.F := by
  obtain ⟨A, Fi, B, x, e1, e2, ⟨p, vs, e3, e4, e5, e6⟩, _⟩ := h.l.at e
  subst e3 e4
  exact ⟨p, vs, e2, e5, e6, by rw [e1]; simp⟩
theorem Holds.loAt {K : PySem.W.Frag} {S : List Slot} {σ : L2.St} {c : Cfg} {i : Nat} {d : D} (h : Holds K S σ c) (e : slotAt S i = some d) : ∃ p, σ[i]? = some (some (V.ref p)) ∧ Lo K c (.ref p) d := by
  unfold slotAt at e
  obtain ⟨s, e1, e2⟩ := Option.bind_eq_some_iff.mp e
  obtain ⟨A, Fi, B, x, e3, e4, q, _⟩ := h.l.at e1
  cases s with
  | own ds =>
    obtain ⟨p, vs, e5, e6, e7, e8⟩ := q
    cases e2
    subst e6
    exact ⟨p, e4, .o e7 e8⟩
  | dic t es =>
    obtain ⟨p, e5, e6, e7⟩ := q
    cases e2
    subst e6
    exact ⟨p, e4, .d e7⟩
  | un => cases e2
  | dat d => cases e2
  | drw _ _ _ => cases e2
  | obj _ _ _ _ _ => cases e2
theorem dl_o (i : Nat) {x : Str} {pos : Pos} (hN : X.N[i]? = some x := by rfl) (hv : Vis X.env.scope x := by first | exact Or.inl rfl | exact Or.inr (Or.inl rfl) | exact Or.inr (Or.inr rfl)) (hd : (x == ("__debug__" : Str)) = false := by decide)
    (hcd : (x == ("__classdict__" : Str)) = false := by decide) : DL X W (.Name x pos) (eVO i) := by
  refine PE.wk (pe_var hN hv hd hcd) fun σ H Q q => ?_
  obtain ⟨S, Z, F, h, g⟩ := q
  unfold eVO at g
  split at g
  · rename_i d e
    obtain ⟨p, e2, r⟩ := h.loAt e
    exact ⟨.ref p, e2, g _ (Stp.refl _) h _ r⟩
  · exact g.elim
/-- what an operation does with data -/
def OpD (X : Cx) (W : WX) (f : Value → Value → Sem Value) (g : D → D → Option D) : Prop := ∃ r : R2, OpR X f r ∧
  ∀ (x y : V) (a b d : D) (S : List Slot) (σ : L2.St) (c : Cfg) (Q : VK), g a b = some d → Holds X.K S σ c → Lo X.K c x a → Lo X.K c y b →
    (∀ c' v, Stp c c' → Holds X.K S σ c' → Rp X.K c'.Z v d → Q v c'.H) → r x y c.H Q
def eBin (g : D → D → Option D) (fa fb : EM D) : EM D := eBind fa fun a => eBind fb fun b => eOpt (g a b)
def eUn (g : D → Option D) (fa : EM D) : EM D := eBind fa fun a => eOpt (g a)
theorem Go.opt {α : Type} {G : Gx} {σ : L2.St} {c : Cfg} {o : Option α} {S : List Slot} {P : α → List Slot → Cfg → Prop} (h : Go G σ c (eOpt o S) P) : ∃ a, o = some a ∧ ∀ c', Stp c c' → Holds G.K S σ c' → P a S c' := by
  cases o with
  | none => exact h.elim
  | some a => exact ⟨a, rfl, h⟩
theorem bin_rd {r : R2} {g : D → D → Option D} {ea eb : Expr} {fa fb : EM D} (hr : ∀ (x y : V) (a b d : D) (S : List Slot) (σ : L2.St) (c : Cfg) (Q : VK), g a b = some d → Holds X.K S σ c → Lo X.K c x a → Lo X.K c y b →
    (∀ c' v, Stp c c' → Holds X.K S σ c' → Rp X.K c'.Z v d → Q v c'.H) → r x y c.H Q) (σ : L2.St) (H : Hp) (Q : VK) (q : tD (gx X W) (eBin g fa fb) σ H Q) : tOp r (tD (gx X W) fa) (tLo (gx X W) fb) σ H Q := by
  obtain ⟨S, Z, F, h, q⟩ := q
  refine ⟨S, Z, F, h, (Go.bind q).mono fun a S1 c1 s1 h1 q1 x rx => ?_⟩
  refine ⟨S1, c1.Z, c1.F, h1, (Go.bind q1).mono fun b S2 c2 s2 h2 q2 y ry => ?_⟩
  obtain ⟨d, e, k⟩ := Go.opt q2
  exact hr x y a b d S2 σ c2 Q e h2 (.z (rx.mono s2.z)) ry fun c' v st hh rv => k c' st hh v rv
theorem de_op {op : Operator} {g : D → D → Option D} {ea eb : Expr} {fa fb : EM D} {pos : Pos} (ho : OpD X W (binaryOp op) g) (ha : DE X W ea fa) (hb : DL X W eb fb) : DE X W (.BinOp ea op eb pos) (eBin g fa fb) := by
  obtain ⟨r, ho, hr⟩ := ho
  exact PE.wk (pe_op ho ha hb) (bin_rd (ea := ea) (eb := eb) hr)
theorem de_cmp {op : CmpOp} {g : D → D → Option D} {ea eb : Expr} {fa fb : EM D} {pos : Pos} (ho : OpD X W (compareOp op) g) (ha : DE X W ea fa) (hb : DL X W eb fb) (hm : behindInMarks op eb = false) : DE X W (.Compare ea [op] [eb] pos) (eBin g fa fb) := by
  obtain ⟨r, ho, hr⟩ := ho
  exact PE.wk (pe_cmpR ho ha hb hm) (bin_rd (ea := ea) (eb := eb) hr)
/-- the left operand a list in a slot of its own -/
def eBinO (g : D → D → Option D) (i : Nat) (fb : EM D) : EM D := fun S0 => match slotAt S0 i with
  | some _ => eBind fb (fun b S => match slotAt S i with
    | some a => eOpt (g a b) S
    | none => .bad) S0
  | none => .bad
theorem binO_rd {r : R2} {g : D → D → Option D} {i : Nat} {fb : EM D} (hr : ∀ (x y : V) (a b d : D) (S : List Slot) (σ : L2.St) (c : Cfg) (Q : VK), g a b = some d → Holds X.K S σ c → Lo X.K c x a → Lo X.K c y b →
    (∀ c' v, Stp c c' → Holds X.K S σ c' → Rp X.K c'.Z v d → Q v c'.H) → r x y c.H Q) (σ : L2.St) (H : Hp) (Q : VK) (q : tD (gx X W) (eBinO g i fb) σ H Q) : tOp r (tVar i) (tD (gx X W) fb) σ H Q := by
  obtain ⟨S, Z, F, h, q⟩ := q
  unfold eBinO at q
  split at q
  · rename_i d0 e0
    obtain ⟨p0, e2, _⟩ := h.loAt e0
    refine ⟨.ref p0, e2, S, Z, F, h, (Go.bind q).mono fun b S1 c1 s1 h1 q1 y ry => ?_⟩
    split at q1
    · rename_i a e1
      obtain ⟨p1, e3, r1⟩ := h1.loAt e1
      rw [e2] at e3
      cases e3
      obtain ⟨d, e, k⟩ := Go.opt q1
      exact hr _ y _ b d S1 σ c1 Q e h1 r1 (.z ry) fun c' v st hh rv => k c' st hh v rv
    · exact q1.elim
  · exact q.elim
theorem de_opO {op : Operator} {g : D → D → Option D} (i : Nat) {x : Str} {p : Pos} {eb : Expr} {fb : EM D} {pos : Pos} (ho : OpD X W (binaryOp op) g) (hb : DE X W eb fb) (hN : X.N[i]? = some x := by rfl) (hv : Vis X.env.scope x := by first | exact Or.inl rfl | exact Or.inr (Or.inl rfl) | exact Or.inr (Or.inr rfl)) (hd : (x == ("__debug__" : Str)) = false := by decide)
    (hcd : (x == ("__classdict__" : Str)) = false := by decide) : DE X W (.BinOp (.Name x p) op eb pos) (eBinO g i fb) := by
  obtain ⟨r, ho, hr⟩ := ho
  exact PE.wk (pe_op ho (pe_var hN hv hd hcd) hb) (binO_rd hr)
theorem de_cmpO {op : CmpOp} {g : D → D → Option D} (i : Nat) {x : Str} {p : Pos} {eb : Expr} {fb : EM D} {pos : Pos} (ho : OpD X W (compareOp op) g) (hb : DE X W eb fb) (hm : behindInMarks op eb = false) (hN : X.N[i]? = some x := by rfl) (hv : Vis X.env.scope x := by first | exact Or.inl rfl | exact Or.inr (Or.inl rfl) | exact Or.inr (Or.inr rfl)) (hd : (x == ("__debug__" : Str)) = false := by decide)
    (hcd : (x == ("__classdict__" : Str)) = false := by decide) : DE X W (.Compare (.Name x p) [op] [eb] pos) (eBinO g i fb) := by
  obtain ⟨r, ho, hr⟩ := ho
  exact PE.wk (pe_cmpR ho (pe_var hN hv hd hcd) hb hm) (binO_rd hr)
/-- data as a truth value -/
def asB : D → Option Bool
  | .bool b => some b
  | _ => none
def bOf (f : EM D) : EM Bool := eBind f fun d => eOpt (asB d)
theorem bof_rd {f : EM D} (σ : L2.St) (H : Hp) (Q : Bool → Hp → Prop) (q : tB' (gx X W) (bOf f) σ H Q) : tD (gx X W) f σ H fun x H' => ∃ k, x = .bl k ∧ Q k H' := by
  obtain ⟨S, Z, F, h, q⟩ := q
  refine ⟨S, Z, F, h, (Go.bind q).mono fun a S1 c1 s1 h1 q1 x rx => ?_⟩
  obtain ⟨d, e, k⟩ := Go.opt q1
  cases a with
  | bool b =>
    cases rx
    cases e
    exact ⟨_, rfl, k c1 (Stp.refl _) h1⟩
  | _ => cases e
theorem dt_cmp {op : CmpOp} {g : D → D → Option D} {ea eb : Expr} {fa fb : EM D} {pos : Pos} (ho : OpD X W (compareOp op) g) (ha : DE X W ea fa) (hb : DL X W eb fb) (hm : behindInMarks op eb = false) : DT X W (.Compare ea [op] [eb] pos) (bOf (eBin g fa fb)) := by
  obtain ⟨r, ho, hr⟩ := ho
  exact PT.wk (pt_cmpR ho ha hb hm) fun σ H Q q => bin_rd (ea := ea) (eb := eb) hr σ H _ (bof_rd σ H Q q)
theorem dt_cmpO {op : CmpOp} {g : D → D → Option D} (i : Nat) {x : Str} {p : Pos} {eb : Expr} {fb : EM D} {pos : Pos} (ho : OpD X W (compareOp op) g) (hb : DE X W eb fb) (hm : behindInMarks op eb = false) (hN : X.N[i]? = some x := by rfl) (hv : Vis X.env.scope x := by first | exact Or.inl rfl | exact Or.inr (Or.inl rfl) | exact Or.inr (Or.inr rfl)) (hd : (x == ("__debug__" : Str)) = false := by decide)
    (hcd : (x == ("__classdict__" : Str)) = false := by decide) : DT X W (.Compare (.Name x p) [op] [eb] pos) (bOf (eBinO g i fb)) := by
  obtain ⟨r, ho, hr⟩ := ho
  exact PT.wk (pt_cmpR ho (pe_var hN hv hd hcd) hb hm) fun σ H Q q => binO_rd hr σ H _ (bof_rd σ H Q q)
theorem dt_val {e : Expr} {f : EM D} (h : DE X W e f) (he : ∀ whole, isTrue e X.env whole = (do let v ← whole; standAt e.pos; holding [v] (truthy v)) := by intro _; rfl) : DT X W e (bOf f) :=
  PT.wk (pt_val h he) fun σ H Q q => bof_rd σ H Q q
/-- and, or, not -/
def bAnd (f g : EM Bool) : EM Bool := eBind f fun b => if b then g else eRet false
def bOr (f g : EM Bool) : EM Bool := eBind f fun b => if b then eRet true else g
def bNot (f : EM Bool) : EM Bool := eBind f fun b => eRet (!b)
def DW (X : Cx) (W : WX) (e : Expr) (f : EM Bool) : Prop := PW X e (tB' (gx X W) f)
variable {a b : Expr} {rest : List Expr} {fa fb : EM Bool} {pos : Pos}
theorem dw_and1 (ha : DT X W a fa) : DW X W (.BoolOp .And [a] pos) fa := pw_and1 ha
theorem dw_or1 (ha : DT X W a fa) : DW X W (.BoolOp .Or [a] pos) fa := pw_or1 ha
theorem dw_and (ha : DT X W a fa) (hb : DW X W (.BoolOp .And (b :: rest) pos) fb) : DW X W (.BoolOp .And (a :: b :: rest) pos) (bAnd fa fb) := by
  refine PW.wk (pw_and ha hb) fun σ H Q q => ?_
  obtain ⟨S, Z, F, h, q⟩ := q
  refine ⟨S, Z, F, h, (Go.bind q).mono fun k S1 c1 s1 h1 q1 => ?_⟩
  cases k with
  | true => exact ⟨S1, c1.Z, c1.F, h1, q1⟩
  | false => exact q1 _ (Stp.refl _) h1
theorem dw_or (ha : DT X W a fa) (hb : DW X W (.BoolOp .Or (b :: rest) pos) fb) : DW X W (.BoolOp .Or (a :: b :: rest) pos) (bOr fa fb) := by
  refine PW.wk (pw_or ha hb) fun σ H Q q => ?_
  obtain ⟨S, Z, F, h, q⟩ := q
  refine ⟨S, Z, F, h, (Go.bind q).mono fun k S1 c1 s1 h1 q1 => ?_⟩
  cases k with
  | false => exact ⟨S1, c1.Z, c1.F, h1, q1⟩
  | true => exact q1 _ (Stp.refl _) h1
theorem dt_w {e : Expr} {f : EM Bool} (h : DW X W e f) : DT X W e f := PW.pt h
theorem dt_not (ha : DT X W a fa) : DT X W (.UnaryOp .Not a pos) (bNot fa) := by
  refine PT.wk (pt_not ha) fun σ H Q q => ?_
  obtain ⟨S, Z, F, h, q⟩ := q
  exact ⟨S, Z, F, h, (Go.bind q).mono fun k S1 c1 s1 h1 q1 => q1 _ (Stp.refl _) h1⟩
/-- .. as values -/
def eAnd (f g : EM D) : EM D := eBind f fun d => match d with | .bool true => g | .bool false => eRet (.bool false) | _ => fun _ => .bad
def eOr (f g : EM D) : EM D := eBind f fun d => match d with | .bool true => eRet (.bool true) | .bool false => g | _ => fun _ => .bad
def eNot (f : EM D) : EM D := eBind f fun d => match d with | .bool b => eRet (.bool (!b)) | _ => fun _ => .bad
variable {ga gb : EM D}
theorem de_one {op} (h : DE X W a ga) : DE X W (.BoolOp op [a] pos) ga := pe_one h
theorem de_and (ha : DE X W a ga) (hb : DE X W (.BoolOp .And (b :: rest) pos) gb) : DE X W (.BoolOp .And (a :: b :: rest) pos) (eAnd ga gb) := by
  refine PE.wk (pe_and ha hb) fun σ H Q q => ?_
  obtain ⟨S, Z, F, h, q⟩ := q
  refine ⟨S, Z, F, h, (Go.bind q).mono fun k S1 c1 s1 h1 q1 x rx => ?_⟩
  cases k with
  | bool k =>
    cases rx
    refine ⟨_, rfl, ?_⟩
    cases k with
    | true => exact ⟨S1, c1.Z, c1.F, h1, q1⟩
    | false => exact q1 _ (Stp.refl _) h1 _ (.bl _)
  | _ => exact q1.elim
theorem de_or (ha : DE X W a ga) (hb : DE X W (.BoolOp .Or (b :: rest) pos) gb) : DE X W (.BoolOp .Or (a :: b :: rest) pos) (eOr ga gb) := by
  refine PE.wk (pe_or ha hb) fun σ H Q q => ?_
  obtain ⟨S, Z, F, h, q⟩ := q
  refine ⟨S, Z, F, h, (Go.bind q).mono fun k S1 c1 s1 h1 q1 x rx => ?_⟩
  cases k with
  | bool k =>
    cases rx
    refine ⟨_, rfl, ?_⟩
    cases k with
    | false => exact ⟨S1, c1.Z, c1.F, h1, q1⟩
    | true => exact q1 _ (Stp.refl _) h1 _ (.bl _)
  | _ => exact q1.elim
theorem de_not (ha : DE X W a ga) : DE X W (.UnaryOp .Not a pos) (eNot ga) := by
  refine PE.wk (pe_not ha) fun σ H Q q => ?_
  obtain ⟨S, Z, F, h, q⟩ := q
  refine ⟨S, Z, F, h, (Go.bind q).mono fun k S1 c1 s1 h1 q1 x rx => ?_⟩
  cases k with
  | bool k =>
    cases rx
    exact ⟨_, rfl, q1 _ (Stp.refl _) h1 _ (.bl _)⟩
  | _ => exact q1.elim
/-- a if t else b -/
def eIf (t : EM Bool) (f g : EM D) : EM D := eBind t fun b => if b then f else g
theorem de_if {c : Expr} (hc : DT X W c fa) (ha : DE X W a ga) (hb : DE X W b gb) : DE X W (.IfExp c a b pos) (eIf fa ga gb) := by
  refine PE.wk (pe_ifExp hc ha hb) fun σ H Q q => ?_
  obtain ⟨S, Z, F, h, q⟩ := q
  refine ⟨S, Z, F, h, (Go.bind q).mono fun k S1 c1 s1 h1 q1 => ?_⟩
  cases k with
  | true => exact ⟨S1, c1.Z, c1.F, h1, q1⟩
  | false => exact ⟨S1, c1.Z, c1.F, h1, q1⟩

/-! ### argument lists, displays -/
def aNil : EM (List D) := eRet []
def aCons (f : EM D) (g : EM (List D)) : EM (List D) := eBind f fun d => eBind g fun ds => eRet (d :: ds)
theorem da_nil : DA X W [] aNil := by
  refine PA.wk pa_nil fun σ H Q q => ?_
  obtain ⟨S, Z, F, h, q⟩ := q
  exact q _ (Stp.refl _) h [] .nil
theorem da_cons {e : Expr} {es : List Expr} {f : EM D} {g : EM (List D)} (ha : DE X W e f) (hr : DA X W es g) (hs : starEach (e :: es) X.env = (false, eval e X.env) :: starEach es X.env := by rfl) : DA X W (e :: es) (aCons f g) := by
  refine PA.wk (pa_cons ha hr hs) fun σ H Q q => ?_
  obtain ⟨S, Z, F, h, q⟩ := q
  refine ⟨S, Z, F, h, (Go.bind q).mono fun d S1 c1 s1 h1 q1 x rx => ?_⟩
  refine ⟨S1, c1.Z, c1.F, h1, (Go.bind q1).mono fun ds S2 c2 s2 h2 q2 xs rs => ?_⟩
  exact q2 _ (Stp.refl _) h2 (x :: xs) (.cons (rx.mono s2.z) rs)
def small (n : Nat) : Bool := decide (n ≤ sizeLine)
def eTup (f : EM (List D)) : EM D := eBind f fun ds => if small ds.length then eRet (.tuple ds) else fun _ => .bad
def eLst (f : EM (List D)) : EM D := eBind f fun ds => if small ds.length then eRet (.list ds) else fun _ => .bad
theorem Holds.layL {S : List Slot} {σ : L2.St} {c : Cfg} {K : PySem.W.Frag} {xs : List V} {ds : List D} (h : Holds K S σ c) {p : Addr} (hp : c.H p = none) (r : RpA K c.Z xs ds) :
    Stp c (c.lay p (.lst xs)) ∧ Holds K S σ (c.lay p (.lst xs)) ∧ Rp K (c.lay p (.lst xs)).Z (.ref p) (.list ds) := by
  obtain ⟨s, q⟩ := h.lay (o := .lst xs) hp
  exact ⟨s, q, .lst upd_same (r.mono s.z)⟩
theorem Holds.layT {S : List Slot} {σ : L2.St} {c : Cfg} {K : PySem.W.Frag} {xs : List V} {ds : List D} (h : Holds K S σ c) {p : Addr} (hp : c.H p = none) (r : RpA K c.Z xs ds) :
    Stp c (c.lay p (.tup xs)) ∧ Holds K S σ (c.lay p (.tup xs)) ∧ Rp K (c.lay p (.tup xs)).Z (.ref p) (.tuple ds) := by
  obtain ⟨s, q⟩ := h.lay (o := .tup xs) hp
  exact ⟨s, q, .tup upd_same (r.mono s.z)⟩
theorem de_tup {es : List Expr} {x1} {f : EM (List D)} (ha : DA X W es f) : DE X W (.Tuple es x1 pos) (eTup f) := by
  refine PE.wk (pe_tup ha) fun σ H Q q => ?_
  obtain ⟨S, Z, F, h, q⟩ := q
  refine ⟨S, Z, F, h, (Go.bind q).mono fun ds S1 c1 s1 h1 q1 xs rs => ?_⟩
  by_cases hs : small ds.length = true
  · rw [if_pos hs] at q1
    refine ⟨by rw [rs.length]; exact of_decide_eq_true hs, fun p hp => ?_⟩
    obtain ⟨s2, h2, r2⟩ := h1.layT hp rs
    exact q1 _ s2 h2 _ r2
  · rw [if_neg hs] at q1
    exact q1.elim
theorem de_lst {es : List Expr} {f : EM (List D)} (ha : DA X W es f) : DE X W (.List es pos) (eLst f) := by
  refine PE.wk (pe_lst ha) fun σ H Q q => ?_
  obtain ⟨S, Z, F, h, q⟩ := q
  refine ⟨S, Z, F, h, (Go.bind q).mono fun ds S1 c1 s1 h1 q1 xs rs => ?_⟩
  by_cases hs : small ds.length = true
  · rw [if_pos hs] at q1
    refine ⟨by rw [rs.length]; exact of_decide_eq_true hs, fun p hp => ?_⟩
    obtain ⟨s2, h2, r2⟩ := h1.layL hp rs
    exact q1 _ s2 h2 _ r2
  · rw [if_neg hs] at q1
    exact q1.elim
end
end FW

/-! FwC: what is walked, targets, comprehensions, statements, loops. -/
namespace FW
open PySem PySem.Spec L2
open PyProof.Rows hiding St
abbrev Sg := L2.St
section
variable {X : Cx} {W : WX} {pos : Pos}

/-! ### what is walked -/
structure ItOk (K : PySem.W.Frag) (Z0 : Hp) (J : It) (ds : List D) : Prop where
  go : ∀ (i : Nat) (c : Cfg) (S : List Slot) (σ : Sg), i < ds.length → Same Z0 c.Z → Holds K S σ c → J.go i c.H ∧
    ∀ x H', J.yld i c.H x H' → ∃ c' d, c'.H = H' ∧ ds[i]? = some d ∧ Stp c c' ∧ Holds K S σ c' ∧ Rp K c'.Z x d
  stop : ∀ (i : Nat) (c : Cfg) (S : List Slot) (σ : Sg), ds.length ≤ i → Same Z0 c.Z → Holds K S σ c → J.stop i c.H
def tI (G : Gx) (m : EM (List D)) : TI := fun σ H R => ∃ S Z F, Holds G.K S σ ⟨Z, H, F⟩ ∧ Go G σ ⟨Z, H, F⟩ (m S) (fun ds _ c' => ∀ J, ItOk G.K c'.Z J ds → R J c'.H)
def DI (X : Cx) (W : WX) (tg iter : Expr) (m : EM (List D)) : Prop := PI X tg iter (tI (gx X W) m)
theorem PI.wk {tg iter : Expr} {t t' : TI} (h : PI X tg iter t) (i : ∀ σ H R, t' σ H R → t σ H R) : PI X tg iter t' := ⟨fun pins s σ H R I q => h.run pins s σ H R I (i _ _ _ q)⟩
theorem ItOk.rng (K : PySem.W.Frag) (Z0 : Hp) (lo : Int) (n : Nat) : ItOk K Z0 (Itr lo n) ((List.range n).map fun i => PyData.int (lo + (i : Nat))) where
  go := fun i c S σ hi _ h => by
    rw [List.length_map, List.length_range] at hi
    refine ⟨hi, fun x H' y => ?_⟩
    obtain ⟨e1, e2⟩ := y
    subst e1 e2
    refine ⟨c, _, rfl, ?_, Stp.refl _, h, .int _⟩
    rw [List.getElem?_map, List.getElem?_range hi]
    rfl
  stop := fun i c S σ hi _ _ => by
    rw [List.length_map, List.length_range] at hi
    exact hi
theorem ItOk.rngC (K : PySem.W.Frag) (Z0 : Hp) (lo st : Int) (n : Nat) : ItOk K Z0 (Itc lo st n) ((List.range n).map fun i => PyData.int (lo + (i : Nat) * st)) where
  go := fun i c S σ hi _ h => by
    rw [List.length_map, List.length_range] at hi
    refine ⟨hi, fun x H' y => ?_⟩
    obtain ⟨e1, e2⟩ := y
    subst e1 e2
    refine ⟨c, _, rfl, ?_, Stp.refl _, h, .int _⟩
    rw [List.getElem?_map, List.getElem?_range hi]
    rfl
  stop := fun i c S σ hi _ _ => by
    rw [List.length_map, List.length_range] at hi
    exact hi
theorem ItOk.lst {K : PySem.W.Frag} {Z0 : Hp} {a : Addr} {xs : List V} {ds : List D} (ha : Z0 a = some (.lst xs)) (r : RpA K Z0 xs ds) : ItOk K Z0 (Itl K a) ds where
  go := fun i c S σ hi sm h => by
    have hq : SqL K c.H a xs := SqL.of (h.zh _ _ (sm _ _ ha))
    obtain ⟨v, e, rv⟩ := r.get (List.getElem?_eq_getElem hi)
    refine ⟨⟨xs, v, hq, e⟩, fun x H' y => ?_⟩
    obtain ⟨e1, y⟩ := y
    subst e1
    have ev := Option.some.inj ((y xs hq).symm.trans e)
    subst ev
    exact ⟨c, _, rfl, List.getElem?_eq_getElem hi, Stp.refl _, h, rv.mono sm⟩
  stop := fun i c S σ hi sm h => ⟨xs, SqL.of (h.zh _ _ (sm _ _ ha)), by rw [r.length]; exact hi⟩
theorem ItOk.tup {K : PySem.W.Frag} {Z0 : Hp} {a : Addr} {xs : List V} {ds : List D} (ha : SqT K Z0 a xs) (r : RpA K Z0 xs ds) : ItOk K Z0 (Itt K a) ds where
  go := fun i c S σ hi sm h => by
    have hq : SqT K c.H a xs := sameT h.zh (sameT sm ha)
    obtain ⟨v, e, rv⟩ := r.get (List.getElem?_eq_getElem hi)
    refine ⟨⟨xs, v, hq, e⟩, fun x H' y => ?_⟩
    obtain ⟨e1, y⟩ := y
    subst e1
    have ev := Option.some.inj ((y xs hq).symm.trans e)
    subst ev
    exact ⟨c, _, rfl, List.getElem?_eq_getElem hi, Stp.refl _, h, rv.mono sm⟩
  stop := fun i c S σ hi sm h => ⟨xs, sameT h.zh (sameT sm ha), by rw [r.length]; exact hi⟩
/-- the items of a list; of a tuple -/
def itemsL : D → Option (List D)
  | .list ds => some ds
  | _ => none
def itemsT : D → Option (List D)
  | .tuple ds => some ds
  | _ => none
def iL (f : EM D) : EM (List D) := eBind f fun d => eOpt (itemsL d)
def iT (f : EM D) : EM (List D) := eBind f fun d => eOpt (itemsT d)
theorem di_list {tg e : Expr} {f : EM D} (he : DE X W e f) : DI X W tg e (iL f) := by
  refine PI.wk (pi_list he) fun σ H R q => ?_
  obtain ⟨S, Z, F, h, q⟩ := q
  refine ⟨S, Z, F, h, (Go.bind q).mono fun d S1 c1 s1 h1 q1 x rx => ?_⟩
  obtain ⟨ds, e, k⟩ := Go.opt q1
  cases d with
  | list ds' =>
    cases e
    cases rx with
    | lst r1 r2 => exact ⟨_, rfl, ⟨_, SqL.of (h1.zh _ _ r1)⟩, k c1 (Stp.refl _) h1 _ (ItOk.lst r1 r2)⟩
  | _ => cases e
theorem di_tup {tg e : Expr} {f : EM D} (he : DE X W e f) : DI X W tg e (iT f) := by
  refine PI.wk (pi_tup he) fun σ H R q => ?_
  obtain ⟨S, Z, F, h, q⟩ := q
  refine ⟨S, Z, F, h, (Go.bind q).mono fun d S1 c1 s1 h1 q1 x rx => ?_⟩
  obtain ⟨ds, e, k⟩ := Go.opt q1
  cases d with
  | tuple ds' =>
    cases e
    cases rx with
    | tup r1 r2 => exact ⟨_, rfl, ⟨_, sameT h1.zh (SqT.of r1)⟩, k c1 (Stp.refl _) h1 _ (ItOk.tup (SqT.of r1) r2)⟩
  | _ => cases e
def big62 (i : Int) : Bool := decide (-(2 ^ 62) ≤ i) && decide (i < 2 ^ 62)
theorem big62_ok {i : Int} (h : big62 i = true) : -(2 ^ 62) ≤ i ∧ i < 2 ^ 62 := by
  unfold big62 at h
  rw [Bool.and_eq_true] at h
  exact ⟨of_decide_eq_true h.1, of_decide_eq_true h.2⟩
def intsD (lo : Int) (n : Nat) : List D := (List.range n).map fun i => PyData.int (lo + (i : Nat))
def intsC (lo st : Int) (n : Nat) : List D := (List.range n).map fun i => PyData.int (lo + (i : Nat) * st)
def rng1 : List D → Option (List D)
  | [.int j] => if big62 j then some (intsD 0 j.toNat) else none
  | _ => none
def rng2 : List D → Option (List D)
  | [.int i, .int j] => if big62 i && big62 j then some (intsD i (j - i).toNat) else none
  | _ => none
def iR1 (f : EM (List D)) : EM (List D) := eBind f fun ds => eOpt (rng1 ds)
def iR2 (f : EM (List D)) : EM (List D) := eBind f fun ds => eOpt (rng2 ds)
theorem RpA.i1 {K : PySem.W.Frag} {Z : Hp} {vs : List V} {i : Int} (h : RpA K Z vs [.int i]) : vs = [.int i] := by
  cases h with
  | cons h1 h2 =>
    cases h1
    cases h2
    rfl
theorem RpA.i2 {K : PySem.W.Frag} {Z : Hp} {vs : List V} {i j : Int} (h : RpA K Z vs [.int i, .int j]) : vs = [.int i, .int j] := by
  cases h with
  | cons h1 h2 =>
    cases h1
    rw [RpA.i1 h2]
theorem RpA.i3 {K : PySem.W.Frag} {Z : Hp} {vs : List V} {i j k : Int} (h : RpA K Z vs [.int i, .int j, .int k]) : vs = [.int i, .int j, .int k] := by
  cases h with
  | cons h1 h2 =>
    cases h1
    rw [RpA.i2 h2]
theorem rng1_some {ds es : List D} (h : rng1 ds = some es) : ∃ j, ds = [.int j] ∧ big62 j = true ∧ es = intsD 0 j.toNat := by
  unfold rng1 at h
  split at h
  · split at h
    · rename_i j hb
      exact ⟨j, rfl, hb, (Option.some.inj h).symm⟩
    · cases h
  · cases h
theorem rng2_some {ds es : List D} (h : rng2 ds = some es) : ∃ i j, ds = [.int i, .int j] ∧ big62 i = true ∧ big62 j = true ∧ es = intsD i (j - i).toNat := by
  unfold rng2 at h
  split at h
  · split at h
    · rename_i i j hb
      rw [Bool.and_eq_true] at hb
      exact ⟨i, j, rfl, hb.1, hb.2, (Option.some.inj h).symm⟩
    · cases h
  · cases h
theorem di_range1 {tg a : Expr} {f : EM (List D)} {p pos : Pos} (hg : Gl X "range") (hm : X.mg "range" = none) (ha : DA X W [a] f) (hs : starEach [a] X.env = [(false, eval a X.env)] := by rfl) : DI X W tg (.Call (.Name "range" p) [a] [] pos) (iR1 f) := by
  refine PI.wk (pi_range1 hg hm ha hs) fun σ H R q => ?_
  obtain ⟨S, Z, F, h, q⟩ := q
  refine ⟨S, Z, F, h, (Go.bind q).mono fun ds S1 c1 s1 h1 q1 vs rs => ?_⟩
  obtain ⟨es, e, k⟩ := Go.opt q1
  obtain ⟨j, rfl, hb, rfl⟩ := rng1_some e
  obtain ⟨b1, b2⟩ := big62_ok hb
  refine ⟨j, rs.i1, b1, b2, k c1 (Stp.refl _) h1 _ (ItOk.rng _ _ 0 j.toNat)⟩
theorem di_range2 {tg a b : Expr} {f : EM (List D)} {p pos : Pos} (hg : Gl X "range") (hm : X.mg "range" = none) (ha : DA X W [a, b] f) (hs : starEach [a, b] X.env = [(false, eval a X.env), (false, eval b X.env)] := by rfl) (hs2 : starEach [b] X.env = [(false, eval b X.env)] := by rfl) :
    DI X W tg (.Call (.Name "range" p) [a, b] [] pos) (iR2 f) := by
  refine PI.wk (pi_range2 hg hm ha hs hs2) fun σ H R q => ?_
  obtain ⟨S, Z, F, h, q⟩ := q
  refine ⟨S, Z, F, h, (Go.bind q).mono fun ds S1 c1 s1 h1 q1 vs rs => ?_⟩
  obtain ⟨es, e, k⟩ := Go.opt q1
  obtain ⟨i, j, rfl, hb, hb', rfl⟩ := rng2_some e
  obtain ⟨b1, b2⟩ := big62_ok hb
  obtain ⟨b3, b4⟩ := big62_ok hb'
  refine ⟨i, j, rs.i2, ⟨b1, b2, b3, b4⟩, k c1 (Stp.refl _) h1 _ (ItOk.rng _ _ i _)⟩

/-! ### targets -/
abbrev Tg := D → List Slot → Option (List Slot)
def Only (is : List Nat) (σ σ' : Sg) : Prop := ∀ vs, (∀ i ∈ is, i ∈ vs) → wipe σ' vs = wipe σ vs
def tG (G : Gx) (is : List Nat) (g : Tg) : TG := fun v σ H Q => ∃ S Z F d S', Holds G.K S σ ⟨Z, H, F⟩ ∧ Rp G.K Z v d ∧ g d S = some S' ∧
  ∀ σ' c', Stp ⟨Z, H, F⟩ c' → Holds G.K S' σ' c' → Only is σ σ' → Q σ' c'.H
def DG (X : Cx) (W : WX) (tg : Expr) (is : List Nat) (g : Tg) : Prop := PG X tg (tG (gx X W) is g)
theorem PG.wk {tg : Expr} {t t' : TG} (h : PG X tg t) (i : ∀ v σ H Q, t' v σ H Q → t v σ H Q) : PG X tg t' := ⟨fun pins s σ H v u Q I r q => h.run pins s σ H v u Q I r (i _ _ _ _ q)⟩
theorem wipe_set {σ : Sg} {i : Nat} {x : Option V} : ∀ {vs : List Nat}, i ∈ vs → wipe (σ.set i x) vs = wipe σ vs := by
  intro vs
  induction vs with
  | nil => intro h; simp at h
  | cons v vs ih =>
    intro h
    unfold wipe
    by_cases hm : i ∈ vs
    · rw [ih hm]
    · rcases List.mem_cons.mp h with e | e
      · subst e
        have key : ∀ (ws : List Nat), i ∉ ws → wipe (σ.set i x) ws = (wipe σ ws).set i x := by
          intro ws
          induction ws with
          | nil => intro _; rfl
          | cons w ws ih2 =>
            intro hn
            simp only [List.mem_cons, not_or] at hn
            unfold wipe
            rw [ih2 hn.2, List.set_comm _ _ hn.1]
        rw [key vs hm, List.set_set]
      · exact absurd e hm
theorem Only.set (σ : Sg) (i : Nat) (x : Option V) : Only [i] σ (σ.set i x) := fun vs h => wipe_set (h i (by simp))
theorem Only.refl (σ : Sg) (is : List Nat) : Only is σ σ := fun _ _ => rfl
theorem Only.trans {σ σ1 σ2 : Sg} {is js : List Nat} (a : Only is σ σ1) (b : Only js σ1 σ2) : Only (is ++ js) σ σ2 := fun vs h =>
  (b vs fun i m => h i (List.mem_append_right _ m)).trans (a vs fun i m => h i (List.mem_append_left _ m))
/-- data into a slot -/
theorem Holds.setD {K : PySem.W.Frag} {S : List Slot} {σ : Sg} {c : Cfg} {i : Nat} {v : V} {d : D} (h : Holds K S σ c) (hi : i < S.length) (r : Rp K c.Z v d) :
    ∃ F', Stp c ⟨c.Z, c.H, F'⟩ ∧ Holds K (S.set i (.dat d)) (σ.set i (some v)) ⟨c.Z, c.H, F'⟩ := by
  obtain ⟨A, Fi, B, x, e1, e2, _, up⟩ := h.l.at (List.getElem?_eq_getElem hi)
  have sub : ∀ b ∈ A ++ B, b ∈ c.F := fun b m => by
    rw [e1]
    simp at m ⊢
    rcases m with m | m <;> simp [m]
  refine ⟨A ++ B, ⟨Same.refl _, fun _ _ q _ => q, fun _ o q => ⟨o, q⟩, fun _ _ q => .inl q, fun b m => .inl (sub b m)⟩, ⟨?_, ?_, fun a m => h.zf a (sub a m), h.zh⟩⟩
  · exact up ⟨c.Z, c.H, A ++ B⟩ (.dat d) (some v) [] (Same.refl _) (fun _ _ => rfl) ⟨rfl, v, rfl, r⟩
  · have nd := h.nd
    rw [e1] at nd
    show (A ++ B).Nodup
    simp only [List.nodup_append, List.mem_append] at nd ⊢
    grind
def gN (i : Nat) : Tg := fun d S => if i < S.length then some (S.set i (.dat d)) else none
theorem dg_name {x : Str} {pos : Pos} (i : Nat) (hN : X.N.Nodup) (hi : X.N[i]? = some x) (hx : Loc X.env.scope x) (hf : X.fn x = true ∨ X.env.scope.names.lookup x = some .local := by first | exact .inl rfl | exact .inr rfl | assumption) : DG X W (.Name x pos) [i] (gN i) := by
  refine PG.wk (pg_name hN hi hx hf) fun v σ H Q q => ?_
  obtain ⟨S, Z, F, d, S', h, r, e, q⟩ := q
  unfold gN at e
  split at e
  · rename_i hl
    cases e
    obtain ⟨F', st, h'⟩ := h.setD hl r
    exact q _ _ st h' (Only.set _ _ _)
  · cases e
def gNs : List Nat → List D → List Slot → Option (List Slot)
  | [], [], S => some S
  | i :: is, d :: ds, S => (gN i d S).bind fun S' => gNs is ds S'
  | _, _, _ => none
def DGs (X : Cx) (W : WX) (tgs : List Expr) (is : List Nat) (t : List D → List Slot → Option (List Slot)) : Prop :=
  PGs X tgs (fun vs σ H Q => ∃ S Z F ds S', Holds X.K S σ ⟨Z, H, F⟩ ∧ RpA X.K Z vs ds ∧ t ds S = some S' ∧ ∀ σ' c', Stp ⟨Z, H, F⟩ c' → Holds X.K S' σ' c' → Only is σ σ' → Q σ' c'.H)
theorem PGs.wk {tg : List Expr} {t t' : TGs} (h : PGs X tg t) (i : ∀ v σ H Q, t' v σ H Q → t v σ H Q) : PGs X tg t' := ⟨fun pins s σ H v u Q I r q => h.run pins s σ H v u Q I r (i _ _ _ _ q)⟩
def gsNil : List D → List Slot → Option (List Slot) := fun ds S => match ds with | [] => some S | _ => none
def gsCons (g : Tg) (t : List D → List Slot → Option (List Slot)) : List D → List Slot → Option (List Slot) := fun ds S => match ds with | d :: ds => (g d S).bind fun S' => t ds S' | _ => none
theorem dgs_nil : DGs X W [] [] gsNil := by
  refine PGs.wk pgs_nil fun vs σ H Q q => ?_
  obtain ⟨S, Z, F, ds, S', h, r, e, q⟩ := q
  cases ds with
  | nil =>
    cases r
    cases e
    exact ⟨rfl, q _ _ (Stp.refl _) h (Only.refl _ _)⟩
  | cons _ _ => cases e
theorem dgs_cons {e : Expr} {es : List Expr} {is js : List Nat} {g : Tg} {t : List D → List Slot → Option (List Slot)} (h1 : DG X W e is g) (h2 : DGs X W es js t)
    (hs : (assignEach (e :: es) X.env).map (·.2) = assign e X.env :: (assignEach es X.env).map (·.2) := by rfl) : DGs X W (e :: es) (is ++ js) (gsCons g t) := by
  refine PGs.wk (pgs_cons h1 h2 hs) fun vs σ H Q q => ?_
  obtain ⟨S, Z, F, ds, S', h, r, e, q⟩ := q
  cases ds with
  | nil => cases e
  | cons d ds =>
    cases r with
    | cons r1 r2 =>
      have e' : (g d S).bind (fun S' => t ds S') = some S' := e
      cases hg : g d S with
      | none => rw [hg] at e'; cases e'
      | some S1 =>
        rw [hg] at e'
        refine ⟨_, _, rfl, S, Z, F, d, S1, h, r1, hg, fun σ1 c1 st h1 o1 => ?_⟩
        exact ⟨S1, c1.Z, c1.F, ds, S', h1, r2.mono st.z, e', fun σ2 c2 st2 h2 o2 => q σ2 c2 (st.trans st2) h2 (o1.trans o2)⟩
def gT (t : List D → List Slot → Option (List Slot)) (n : Nat) : Tg := fun d S => match d with | .tuple ds => if ds.length = n then t ds S else none | _ => none
def gL (t : List D → List Slot → Option (List Slot)) (n : Nat) : Tg := fun d S => match d with | .list ds => if ds.length = n then t ds S else none | _ => none
theorem dg_tup {es : List Expr} {k : Nat} {is : List Nat} {t : List D → List Slot → Option (List Slot)} {n : Nat} (hc : X.calm = true) (h : DGs X W es is t)
    (hn : (assignEach es X.env).length = n := by rfl) (hst : (assignEach es X.env).findIdx? (·.1) = none := by rfl) : DG X W (.Tuple es k pos) is (gT t n) := by
  refine PG.wk (pg_tup hc h hn hst) fun v σ H Q q => ?_
  obtain ⟨S, Z, F, d, S', h, r, e, q⟩ := q
  cases d with
  | tuple ds =>
    have e' : (if ds.length = n then t ds S else none) = some S' := e
    split at e'
    · rename_i hl
      cases r with
      | tup r1 r2 => exact ⟨_, _, rfl, sameT h.zh (SqT.of r1), by rw [r2.length]; exact hl, S, Z, F, ds, S', h, r2, e', q⟩
    · cases e'
  | _ => cases e
theorem dg_unl {es : List Expr} {k : Nat} {is : List Nat} {t : List D → List Slot → Option (List Slot)} {n : Nat} (hc : X.calm = true) (h : DGs X W es is t)
    (hn : (assignEach es X.env).length = n := by rfl) (hst : (assignEach es X.env).findIdx? (·.1) = none := by rfl) : DG X W (.Tuple es k pos) is (gL t n) := by
  refine PG.wk (pg_unl hc h hn hst) fun v σ H Q q => ?_
  obtain ⟨S, Z, F, d, S', h, r, e, q⟩ := q
  cases d with
  | list ds =>
    have e' : (if ds.length = n then t ds S else none) = some S' := e
    split at e'
    · rename_i hl
      cases r with
      | lst r1 r2 => exact ⟨_, _, rfl, SqL.of (h.zh _ _ r1), by rw [r2.length]; exact hl, S, Z, F, ds, S', h, r2, e', q⟩
    · cases e'
  | _ => cases e

/-! ### statements -/
def DS (X : Cx) (W : WX) (st : Stmt) (f : SM) : Prop := PS X st (tS (gx X W) f)
def DSs (X : Cx) (W : WX) (st : List Stmt) (f : SM) : Prop := PSs X st (tS (gx X W) f)
def sNx : SM := fun S => .nx S
def sSeq (f g : SM) : SM := fun S => match f S with
  | .nx S' => g S'
  | o => o
theorem ds_nil : DSs X W [] sNx := by
  refine PSs.wk pss_nil fun Q σ H q => ?_
  obtain ⟨S, Z, F, h, q⟩ := q
  exact q _ _ (Stp.refl _) h
theorem ds_cons {st : Stmt} {rest : List Stmt} {f g : SM} (h1 : DS X W st f) (h2 : DSs X W rest g) : DSs X W (st :: rest) (sSeq f g) := by
  refine PSs.wk (pss_cons h1 h2) fun Q σ H q => ?_
  obtain ⟨S, Z, F, h, q⟩ := q
  refine ⟨S, Z, F, h, ?_⟩
  unfold sSeq at q
  cases e : f S with
  | nx S' =>
    rw [e] at q
    exact fun σ' c' st h' => ⟨S', c'.Z, c'.F, h', GoS.step q st⟩
  | rt d S' => rw [e] at q; exact q
  | bk S' => rw [e] at q; exact q
  | ct S' => rw [e] at q; exact q
  | ex x S' => rw [e] at q; exact q
  | bad => rw [e] at q; exact q.elim
def sPass : SM := fun S => .nx S
def sBrk : SM := fun S => .bk S
def sCnt : SM := fun S => .ct S
theorem ds_pass : DS X W (.Pass pos) sPass := PS.wk ps_pass fun Q σ H ⟨S, Z, F, h, q⟩ => q _ _ (Stp.refl _) h
theorem ds_break : DS X W (.Break pos) sBrk := PS.wk ps_break fun Q σ H ⟨S, Z, F, h, q⟩ => q _ _ (Stp.refl _) h
theorem ds_continue : DS X W (.Continue pos) sCnt := PS.wk ps_continue fun Q σ H ⟨S, Z, F, h, q⟩ => q _ _ (Stp.refl _) h
/-- an expression's end becomes a statement's -/
def sOf {α : Type} (m : EM α) (k : α → List Slot → Out) : SM := fun S => match m S with
  | .ok a S' => k a S'
  | .ex e S' => .ex e S'
  | .bad => .bad
def sExpr (f : EM D) : SM := sOf f fun _ S => .nx S
def sRet (f : EM D) : SM := sOf f fun d S => .rt d S
def sRetN : SM := fun S => .rt .none S
theorem ds_expr {e : Expr} {f : EM D} (he : DE X W e f) (hs : swapsWith e none pos.line X.env = pure false := by rfl) : DS X W (.Expr e pos) (sExpr f) := by
  refine PS.wk (ps_expr he hs) fun Q σ H q => ?_
  obtain ⟨S, Z, F, h, q⟩ := q
  exact ⟨S, Z, F, h, Go.toS q fun a S1 c1 s1 h1 q1 v rv => q1 _ _ (Stp.refl _) h1⟩
theorem ds_ret {e : Expr} {f : EM D} (he : DE X W e f) : DS X W (.Return (some e) pos) (sRet f) := by
  refine PS.wk (ps_ret he) fun Q σ H q => ?_
  obtain ⟨S, Z, F, h, q⟩ := q
  exact ⟨S, Z, F, h, Go.toS q fun a S1 c1 s1 h1 q1 v rv => q1 _ _ _ (Stp.refl _) h1 rv⟩
theorem ds_retN : DS X W (.Return none pos) sRetN := PS.wk ps_retN fun Q σ H ⟨S, Z, F, h, q⟩ => q _ _ _ (Stp.refl _) h .non
def sIf (t : EM Bool) (f g : SM) : SM := sOf t fun b S => if b then f S else g S
theorem ds_if {c : Expr} {a b : List Stmt} {t : EM Bool} {f g : SM} (hc : DT X W c t) (ha : DSs X W a f) (hb : DSs X W b g) : DS X W (.If c a b pos) (sIf t f g) := by
  refine PS.wk (ps_if hc ha hb) fun Q σ H q => ?_
  obtain ⟨S, Z, F, h, q⟩ := q
  refine ⟨S, Z, F, h, Go.toS q fun k S1 c1 s1 h1 q1 => ?_⟩
  cases k with
  | true => exact ⟨S1, c1.Z, c1.F, h1, q1⟩
  | false => exact ⟨S1, c1.Z, c1.F, h1, q1⟩
/-- target = value -/
def sAsg (f : EM D) (g : Tg) : SM := sOf f fun d S => match g d S with | some S' => .nx S' | none => .bad
theorem asg_rd {f : EM D} {g : Tg} {is : List Nat} (Q : Ends) (σ : Sg) (H : Hp) (q : tS (gx X W) (sAsg f g) Q σ H) : tAsg (tD (gx X W) f) (tG (gx X W) is g) Q σ H := by
  obtain ⟨S, Z, F, h, q⟩ := q
  refine ⟨S, Z, F, h, Go.toS q fun d S1 c1 s1 h1 q1 v rv => ?_⟩
  cases e : g d S1 with
  | none => rw [e] at q1; exact q1.elim
  | some S2 =>
    rw [e] at q1
    exact ⟨S1, c1.Z, c1.F, d, S2, h1, rv, e, fun σ' c' st h' _ => q1 σ' c' st h'⟩
theorem ds_asg {tg e : Expr} {f : EM D} {is : List Nat} {g : Tg} (he : DE X W e f) (hg : DG X W tg is g) (hs : swapsWithSole [tg] e pos.line X.env = pure false := by rfl) (hw : swappedStores [tg] e X.env = pure none := by rfl)
    (h1 : (assignEach [tg] X.env).map (·.2) = [assign tg X.env] := by rfl) : DS X W (.Assign [tg] e pos) (sAsg f g) := PS.wk (ps_asg he hg hs hw h1) asg_rd
def sSet (i : Nat) (f : EM D) : SM := sAsg f (gN i)
theorem ds_set (i : Nat) {x : Str} {e : Expr} {f : EM D} {pos' : Pos} (hN : X.N.Nodup) (he : DE X W e f) (hi : X.N[i]? = some x := by rfl) (hx : Loc X.env.scope x := by first | exact Or.inl rfl | exact Or.inr rfl) (hs : swapsWith e (some (.Name x pos')) pos.line X.env = pure false := by rfl)
    (hf : X.fn x = true ∨ X.env.scope.names.lookup x = some .local := by first | exact .inl rfl | exact .inr rfl | assumption) : DS X W (.Assign [.Name x pos'] e pos) (sSet i f) := by
  refine PS.wk (ps_set hN hi hx he hs hf) fun Q σ H q => ?_
  obtain ⟨S, Z, F, h, q⟩ := q
  refine ⟨S, Z, F, h, Go.toS q fun d S1 c1 s1 h1 q1 v rv => ?_⟩
  unfold gN at q1
  by_cases hl : i < S1.length
  · rw [if_pos hl] at q1
    obtain ⟨F', st, h'⟩ := h1.setD hl rv
    exact q1 _ ⟨c1.Z, c1.H, F'⟩ st h'
  · rw [if_neg hl] at q1
    exact q1.elim
/-- a, b = x, y -/
def gTwo (i j : Nat) : List D → List Slot → Option (List Slot) := fun ds S => match ds with
  | [a, b] => (gN i a S).bind fun S' => gN j b S'
  | _ => none
def sPar (i j : Nat) (f : EM (List D)) : SM := sOf f fun ds S => match gTwo i j ds S with | some S' => .nx S' | none => .bad
theorem ds_par (i j : Nat) {x y : Str} {a b : Expr} {f : EM (List D)} {px py pt : Pos} {kt k2 pt2} (hc : X.calm = true) (hN : X.N.Nodup) (ha : DA X W [a, b] f) (hij : i ≠ j) (hi : X.N[i]? = some x := by rfl) (hj : X.N[j]? = some y := by rfl)
    (hx : X.env.scope.names.lookup x = some .local := by rfl) (hy : X.env.scope.names.lookup y = some .local := by rfl)
    (hw : swappedStores [.Tuple [.Name x px, .Name y py] kt pt] (.Tuple [a, b] k2 pt2) X.env = pure (some [x, y]) := by rfl)
    (hs : swapsWithSole [.Tuple [.Name x px, .Name y py] kt pt] (.Tuple [a, b] k2 pt2) pos.line X.env = pure false := by rfl) :
    DS X W (.Assign [.Tuple [.Name x px, .Name y py] kt pt] (.Tuple [a, b] k2 pt2) pos) (sPar i j f) := by
  refine PS.wk (ps_par hc hN hi hj hij hx hy ha hw hs) fun Q σ H q => ?_
  obtain ⟨S, Z, F, h, q⟩ := q
  refine ⟨S, Z, F, h, Go.toS q fun ds S1 c1 s1 h1 q1 vs rs => ?_⟩
  match ds, rs with
  | [], _ => exact q1.elim
  | [_], _ => exact q1.elim
  | [d1, d2], .cons r1 (.cons r2 .nil) =>
    refine ⟨_, _, rfl, ?_⟩
    cases e : gTwo i j [d1, d2] S1 with
    | none => rw [e] at q1; exact q1.elim
    | some S2 =>
      rw [e] at q1
      have e' : (gN i d1 S1).bind (fun S' => gN j d2 S') = some S2 := e
      obtain ⟨S3, e1, e2⟩ := Option.bind_eq_some_iff.mp e'
      unfold gN at e1 e2
      split at e1
      · rename_i hl
        cases e1
        split at e2
        · rename_i hl2
          cases e2
          obtain ⟨F', st, h'⟩ := h1.setD hl r1
          obtain ⟨F2, st2, h2⟩ := h'.setD hl2 r2
          exact q1 _ ⟨c1.Z, c1.H, F2⟩ (st.trans st2) h2
        · cases e2
      · cases e1
  | _ :: _ :: _ :: _, _ => exact q1.elim
/-- x op= e for data -/
def sAug (i : Nat) (g : D → D → Option D) (f : EM D) : SM := fun S => match S[i]? with
  | some (.dat a) => sOf f (fun b S' => match g a b with | some d => .nx (S'.set i (.dat d)) | none => .bad) S
  | _ => .bad
def IpD (X : Cx) (op : Operator) (g : D → D → Option D) : Prop := ∃ t : TIp, PIp X op t ∧
  ∀ (x y : V) (a b d : D) (S : List Slot) (σ : Sg) (c : Cfg) (Q : VK), g a b = some d → Holds X.K S σ c → Rp X.K c.Z x a → Rp X.K c.Z y b →
    (∀ c' v, Stp c c' → Holds X.K S σ c' → Rp X.K c'.Z v d → Q v c'.H) → t x y c.H Q
theorem ds_aug (i : Nat) {x : Str} {e : Expr} {f : EM D} {op : Operator} {g : D → D → Option D} {pos' : Pos} (hN : X.N.Nodup) (ho : IpD X op g) (he : DE X W e f) (hi : X.N[i]? = some x := by rfl) (hx : Loc X.env.scope x := by first | exact Or.inl rfl | exact Or.inr rfl)
    (hf : X.fn x = true ∨ X.env.scope.names.lookup x = some .local := by first | exact .inl rfl | exact .inr rfl | assumption) : DS X W (.AugAssign (.Name x pos') op e pos) (sAug i g f) := by
  obtain ⟨t, ho, hr⟩ := ho
  refine PS.wk (ps_aug hN hi hx he ho hf) fun Q σ H q => ?_
  obtain ⟨S, Z, F, h, q⟩ := q
  unfold sAug at q
  split at q
  · rename_i a es
    obtain ⟨v, e2, r⟩ := h.datAt es
    refine ⟨v, e2, S, Z, F, h, Go.toS q fun b S1 c1 s1 h1 q1 y ry => ?_⟩
    cases eg : g a b with
    | none => rw [eg] at q1; exact q1.elim
    | some d =>
      rw [eg] at q1
      refine hr v y a b d S1 σ c1 _ eg h1 (r.mono s1.z) ry fun c2 z s2 h2 rz => ?_
      have hl : i < S1.length := by
        have l1 := h1.l.len
        have l0 := h.l.len
        have : i < S.length := by
          rcases Nat.lt_or_ge i S.length with z | z
          · exact z
          · rw [List.getElem?_eq_none z] at es; cases es
        omega
      obtain ⟨F', st, h'⟩ := h2.setD hl rz
      exact q1 _ ⟨c2.Z, c2.H, F'⟩ (s2.trans st) h'
  · exact q.elim

/-! ### loops -/
def forL (g : Tg) (body : SM) : List D → SM
  | [], S => .nx S
  | d :: ds, S => match g d S with
    | none => .bad
    | some S1 => match body S1 with
      | .nx S2 => forL g body ds S2
      | .ct S2 => forL g body ds S2
      | .bk S2 => .nx S2
      | o => o
def sFor (src : EM (List D)) (g : Tg) (body : SM) : SM := sOf src fun ds S => forL g body ds S
theorem ds_for {tg iter : Expr} {body : List Stmt} {m : EM (List D)} {is : List Nat} {g : Tg} {f : SM} (hp : PassesOwn (model X.prog X.w) X.A X.env X.xe) (hc : X.calm = true) (hi : DI X W tg iter m) (hg : DG X W tg is g) (hb : DSs X W body f)
    (hs : ∀ x, foldedSetIterable iter X.env x = pure x := by intro _; rfl) : DS X W (.For tg iter body [] pos) (sFor m g f) := by
  refine PS.wk (ps_for hp hc hi hg hb hs) fun Q σ H q => ?_
  obtain ⟨S, Z, F, h, q⟩ := q
  refine ⟨S, Z, F, h, Go.toS q fun ds S1 c1 s1 h1 q1 J it => ?_⟩
  refine ⟨fun i m σ' H' => m = ds.length - i ∧ i ≤ ds.length ∧ ∃ S' c', c'.H = H' ∧ Same c1.Z c'.Z ∧ Holds X.K S' σ' c' ∧ GoS (gx X W) c' Q (forL g f (ds.drop i) S'), ⟨ds.length, by simp, by simp, S1, c1, rfl, Same.refl _, h1, q1⟩, fun i m σ' H' w => ?_⟩
  obtain ⟨em, hi, S', c', eH, sm, h', q'⟩ := w
  subst eH
  by_cases hlt : i < ds.length
  · obtain ⟨go, yld⟩ := it.go i c' S' σ' hlt sm h'
    refine .inr ⟨go, fun σ2 H2 => ∃ S2 c2, c2.H = H2 ∧ Same c1.Z c2.Z ∧ Holds X.K S2 σ2 c2 ∧ GoS (gx X W) c2 Q (forL g f (ds.drop (i + 1)) S2), fun σ2 H2 n => ?_, fun x H2 y => ?_⟩
    · obtain ⟨S2, c2, e2, sm2, h2, q2⟩ := n
      exact ⟨ds.length - (i + 1), by omega, rfl, hlt, S2, c2, e2, sm2, h2, q2⟩
    · obtain ⟨c2, d, e2, ed, st2, h2, rd⟩ := yld x H2 y
      subst e2
      have dr : ds.drop i = d :: ds.drop (i + 1) := by
        rw [List.drop_eq_getElem_cons hlt]
        rw [List.getElem?_eq_getElem hlt] at ed
        rw [Option.some.inj ed]
      rw [dr] at q'
      unfold forL at q'
      cases eg : g d S' with
      | none => rw [eg] at q'; exact q'.elim
      | some S3 =>
        rw [eg] at q'
        refine ⟨S', c2.Z, c2.F, d, S3, h2, rd, eg, fun σ3 c3 st3 h3 _ => ?_⟩
        refine ⟨S3, c3.Z, c3.F, h3, ?_⟩
        have st13 : Stp c' c3 := st2.trans st3
        cases eb : f S3 with
        | nx S4 =>
          simp only [eb] at q'
          exact fun σ4 c4 st4 h4 => ⟨S4, c4, rfl, sm.trans (st13.trans st4).z, h4, GoS.step q' (st13.trans st4)⟩
        | ct S4 =>
          simp only [eb] at q'
          exact fun σ4 c4 st4 h4 => ⟨S4, c4, rfl, sm.trans (st13.trans st4).z, h4, GoS.step q' (st13.trans st4)⟩
        | bk S4 =>
          simp only [eb] at q'
          exact fun σ4 c4 st4 h4 => q' σ4 c4 (st13.trans st4) h4
        | rt v S4 =>
          simp only [eb] at q'
          exact fun σ4 c4 v st4 h4 => q' σ4 c4 v (st13.trans st4) h4
        | ex x S4 =>
          simp only [eb] at q'
          exact fun σ4 c4 cls dx st4 h4 => q' σ4 c4 cls dx (st13.trans st4) h4
        | bad =>
          simp only [eb] at q'
          exact q'.elim
  · have e : ds.drop i = [] := List.drop_eq_nil_of_le (by omega)
    rw [e] at q'
    exact .inl ⟨it.stop i c' S' σ' (by omega) sm h', q' σ' c' (Stp.refl _) h'⟩
def whileL (t : EM Bool) (body : SM) : Nat → SM
  | 0, _ => .bad
  | n + 1, S => match t S with
    | .ok true S1 => match body S1 with
      | .nx S2 => whileL t body n S2
      | .ct S2 => whileL t body n S2
      | .bk S2 => .nx S2
      | o => o
    | .ok false S1 => .nx S1
    | .ex e S1 => .ex e S1
    | .bad => .bad
def sWhile (n : Nat) (t : EM Bool) (body : SM) : SM := whileL t body n
theorem ds_while (n : Nat) {c : Expr} {body : List Stmt} {t : EM Bool} {f : SM} (hp : PassesOwn (model X.prog X.w) X.A X.env X.xe) (hc : DT X W c t) (hb : DSs X W body f) : DS X W (.While c body [] pos) (sWhile n t f) := by
  refine PS.wk (ps_while hp hc hb) fun Q σ H q => ?_
  obtain ⟨S, Z, F, h, q⟩ := q
  refine ⟨fun m σ' H' => ∃ S' c', c'.H = H' ∧ Holds X.K S' σ' c' ∧ GoS (gx X W) c' Q (whileL t f m S'), ⟨n, S, _, rfl, h, q⟩, fun m σ' H' w => ?_⟩
  obtain ⟨S', c', eH, h', q'⟩ := w
  subst eH
  cases m with
  | zero => exact q'.elim
  | succ m =>
    refine ⟨S', c'.Z, c'.F, h', ?_⟩
    unfold whileL at q'
    cases et : t S' with
    | bad => rw [et] at q'; exact q'.elim
    | ex e S1 =>
      rw [et] at q'
      exact fun c1 cls dx st h1 x => q' _ c1 cls dx st h1 x
    | ok b S1 =>
      rw [et] at q'
      intro c1 st h1
      cases b with
      | false => exact q' _ c1 st h1
      | true =>
        refine ⟨fun σ2 H2 => ∃ S2 c2, c2.H = H2 ∧ Holds X.K S2 σ2 c2 ∧ GoS (gx X W) c2 Q (whileL t f m S2), fun σ2 H2 ⟨S2, c2, e2, h2, q2⟩ => ⟨m, by omega, S2, c2, e2, h2, q2⟩, S1, c1.Z, c1.F, h1, ?_⟩
        cases eb : f S1 with
        | nx S4 =>
          simp only [eb] at q'
          exact fun σ4 c4 st4 h4 => ⟨S4, c4, rfl, h4, GoS.step q' (st.trans st4)⟩
        | ct S4 =>
          simp only [eb] at q'
          exact fun σ4 c4 st4 h4 => ⟨S4, c4, rfl, h4, GoS.step q' (st.trans st4)⟩
        | bk S4 =>
          simp only [eb] at q'
          exact fun σ4 c4 st4 h4 => q' σ4 c4 (st.trans st4) h4
        | rt v S4 =>
          simp only [eb] at q'
          exact fun σ4 c4 v st4 h4 => q' σ4 c4 v (st.trans st4) h4
        | ex x S4 =>
          simp only [eb] at q'
          exact fun σ4 c4 cls dx st4 h4 => q' σ4 c4 cls dx (st.trans st4) h4
        | bad =>
          simp only [eb] at q'
          exact q'.elim
end
end FW

/-! FwD: comprehensions, defs, calls. -/
namespace FW
open PySem PySem.Spec L2
open PyProof.Rows hiding St
section
variable {X : Cx} {W : WX} {pos : Pos}

/-! ### fresh lists -/
def tF (G : Gx) (f : EM (List D)) : TE := fun σ H Q => ∃ S Z F, Holds G.K S σ ⟨Z, H, F⟩ ∧ Go G σ ⟨Z, H, F⟩ (f S) (fun ds _ c' => ∀ p vs, c'.H p = none → RpA G.K c'.Z vs ds → Q (.ref p) (upd c'.H p (.lst vs)))
def DF (X : Cx) (W : WX) (e : Expr) (f : EM (List D)) : Prop := PE X e (tF (gx X W) f)
def eFz (f : EM (List D)) : EM D := eBind f fun ds => eRet (.list ds)
theorem de_f {e : Expr} {f : EM (List D)} (h : DF X W e f) : DE X W e (eFz f) := by
  refine PE.wk h fun σ H Q q => ?_
  obtain ⟨S, Z, F, h, q⟩ := q
  refine ⟨S, Z, F, h, (Go.bind q).mono fun ds S1 c1 s1 h1 q1 p vs hp rs => ?_⟩
  obtain ⟨s2, h2, r2⟩ := h1.layL hp rs
  exact q1 _ s2 h2 _ r2
/-- a fresh thing into a slot of its own -/
theorem Holds.setU {K : PySem.W.Frag} {S : List Slot} {σ : Sg} {c : Cfg} {i : Nat} {p : Addr} {u : HO} {sl : Slot} (h : Holds K S σ c) (hi : i < S.length) (hp : c.H p = none) (r : ∀ F', SlotOk K ⟨c.Z, upd c.H p u, F'⟩ sl (some (.ref p)) [p]) :
    ∃ F', Stp c ⟨c.Z, upd c.H p u, F'⟩ ∧ Holds K (S.set i sl) (σ.set i (some (.ref p))) ⟨c.Z, upd c.H p u, F'⟩ := by
  obtain ⟨A, Fi, B, x, e1, e2, _, up⟩ := h.l.at (List.getElem?_eq_getElem hi)
  have hF := h.nF hp
  rw [e1] at hF
  simp only [List.mem_append, not_or] at hF
  refine ⟨A ++ ([p] ++ B), ⟨Same.refl _, fun b o q _ => same_upd hp b o q, fun b o q => ⟨o, same_upd hp b o q⟩, fun _ _ q => .inl q, fun b m => ?_⟩, ⟨?_, ?_, fun a m => ?_, h.zh.trans (same_upd hp)⟩⟩
  · have m' : b ∈ A ++ ([p] ++ B) := m
    simp only [List.mem_append, List.mem_singleton] at m'
    rw [e1]
    rcases m' with m' | m' | m'
    · exact .inl (by simp [m'])
    · subst m'
      exact .inr hp
    · exact .inl (by simp [m'])
  · refine up ⟨c.Z, upd c.H p u, A ++ ([p] ++ B)⟩ sl (some (.ref p)) [p] (Same.refl _) (fun a m => ?_) (r _)
    have ne : a ≠ p := by
      rintro rfl
      rcases List.mem_append.mp m with m | m
      · exact hF.1 m
      · exact hF.2.2 m
    exact upd_ne ne
  · have nd := h.nd
    rw [e1] at nd
    show (A ++ ([p] ++ B)).Nodup
    simp only [List.nodup_append, List.mem_append, List.mem_singleton, List.nodup_cons] at nd ⊢
    grind
  · have m' : a ∈ A ++ ([p] ++ B) := m
    simp only [List.mem_append, List.mem_singleton] at m'
    rcases m' with m' | m' | m'
    · exact h.zf a (by rw [e1]; simp [m'])
    · subst m'
      exact h.nf hp
    · exact h.zf a (by rw [e1]; simp [m'])
theorem Holds.setO {K : PySem.W.Frag} {S : List Slot} {σ : Sg} {c : Cfg} {i : Nat} {p : Addr} {vs : List V} {ds : List D} (h : Holds K S σ c) (hi : i < S.length) (hp : c.H p = none) (r : RpA K c.Z vs ds) :
    ∃ F', Stp c ⟨c.Z, upd c.H p (.lst vs), F'⟩ ∧ Holds K (S.set i (.own ds)) (σ.set i (some (.ref p))) ⟨c.Z, upd c.H p (.lst vs), F'⟩ := h.setU hi hp fun F' => ⟨p, vs, rfl, rfl, upd_same, r⟩
def sOwn (i : Nat) (f : EM (List D)) : SM := sOf f fun ds S => if i < S.length then .nx (S.set i (.own ds)) else .bad
theorem own_rd {f : EM (List D)} {i : Nat} (Q : Ends) (σ : Sg) (H : Hp) (q : tS (gx X W) (sOwn i f) Q σ H) : tAsg (tF (gx X W) f) (gName i) Q σ H := by
  obtain ⟨S, Z, F, h, q⟩ := q
  refine ⟨S, Z, F, h, Go.toS q fun ds S1 c1 s1 h1 q1 p vs hp rs => ?_⟩
  split at q1
  · rename_i hl
    obtain ⟨F', st, h'⟩ := h1.setO hl hp rs
    exact q1 _ ⟨c1.Z, upd c1.H p (.lst vs), F'⟩ st h'
  · exact q1.elim
theorem ds_own (i : Nat) {x : Str} {e : Expr} {f : EM (List D)} {pos' : Pos} (hN : X.N.Nodup) (he : DF X W e f) (hi : X.N[i]? = some x := by rfl) (hx : Loc X.env.scope x := by first | exact Or.inl rfl | exact Or.inr rfl) (hs : swapsWith e (some (.Name x pos')) pos.line X.env = pure false := by rfl)
    (hf : X.fn x = true ∨ X.env.scope.names.lookup x = some .local := by first | exact .inl rfl | exact .inr rfl | assumption) : DS X W (.Assign [.Name x pos'] e pos) (sOwn i f) :=
  PS.wk (ps_set hN hi hx he hs hf) own_rd
theorem df_lst {es : List Expr} {f : EM (List D)} (ha : DA X W es f) : DF X W (.List es pos) (eBind f fun ds => if small ds.length then eRet ds else fun _ => .bad) := by
  refine PE.wk (pe_lst ha) fun σ H Q q => ?_
  obtain ⟨S, Z, F, h, q⟩ := q
  refine ⟨S, Z, F, h, (Go.bind q).mono fun ds S1 c1 s1 h1 q1 xs rs => ?_⟩
  by_cases hs : small ds.length = true
  · rw [if_pos hs] at q1
    exact ⟨by rw [rs.length]; exact of_decide_eq_true hs, fun p hp => q1 c1 (Stp.refl _) h1 p xs hp rs⟩
  · rw [if_neg hs] at q1
    exact q1.elim

/-! ### comprehensions -/
def wipeS : List Nat → List Slot → List Slot
  | [], S => S
  | v :: vs, S => (wipeS vs S).set v .un
def plainSlot : Slot → Bool
  | .un => true
  | .dat _ => true
  | _ => false
def restS : List Nat → List Slot → List Slot → List Slot
  | [], _, S => S
  | v :: vs, S0, S => match S0[v]? with
    | some s => (restS vs S0 S).set v s
    | none => restS vs S0 S
def plainAt (own : List Nat) (S : List Slot) : Bool := own.all fun v => match S[v]? with
  | some s => plainSlot s
  | none => true
theorem Holds.unset {K : PySem.W.Frag} {S : List Slot} {σ : Sg} {c : Cfg} (i : Nat) (h : Holds K S σ c) :
    ∃ F', (∀ b ∈ F', b ∈ c.F) ∧ Holds K (S.set i .un) (σ.set i none) ⟨c.Z, c.H, F'⟩ := by
  by_cases hi : i < S.length
  · obtain ⟨A, Fi, B, x, e1, e2, _, up⟩ := h.l.at (List.getElem?_eq_getElem hi)
    have sub : ∀ b ∈ A ++ B, b ∈ c.F := fun b m => by
      rw [e1]
      simp at m ⊢
      rcases m with m | m <;> simp [m]
    refine ⟨A ++ B, sub, ⟨?_, ?_, fun a m => h.zf a (sub a m), h.zh⟩⟩
    · exact up ⟨c.Z, c.H, A ++ B⟩ .un none [] (Same.refl _) (fun _ _ => rfl) rfl
    · have nd := h.nd
      rw [e1] at nd
      show (A ++ B).Nodup
      simp only [List.nodup_append, List.mem_append] at nd ⊢
      grind
  · have hl := h.l.len
    rw [List.set_eq_of_length_le (by omega), List.set_eq_of_length_le (by omega)]
    exact ⟨c.F, fun _ m => m, h⟩
theorem Holds.wipe {K : PySem.W.Frag} {S : List Slot} {σ : Sg} : ∀ (own : List Nat) {c : Cfg}, Holds K S σ c → ∃ F', (∀ b ∈ F', b ∈ c.F) ∧ Holds K (wipeS own S) (L2.wipe σ own) ⟨c.Z, c.H, F'⟩
  | [], c, h => ⟨c.F, fun _ m => m, h⟩
  | v :: vs, c, h => by
    obtain ⟨F1, s1, h1⟩ := Holds.wipe vs h
    obtain ⟨F2, s2, h2⟩ := h1.unset v
    exact ⟨F2, fun b m => s1 b (s2 b m), h2⟩
theorem Stp.sub {c : Cfg} {F' : List Addr} (h : ∀ b ∈ F', b ∈ c.F) : Stp c ⟨c.Z, c.H, F'⟩ := ⟨Same.refl _, fun _ _ q _ => q, fun _ o q => ⟨o, q⟩, fun _ _ q => .inl q, fun b m => .inl (h b m)⟩
/-- plain slots of one state come back into another one -/
theorem SlotOk.plain {K : PySem.W.Frag} {c c' : Cfg} {s : Slot} {x : Option V} {F : List Addr} (h : SlotOk K c s x F) (p : plainSlot s = true) (z : Same c.Z c'.Z) : SlotOk K c' s x [] := by
  cases s with
  | un => rfl
  | dat d =>
    obtain ⟨_, v, e, r⟩ := h
    exact ⟨rfl, v, e, r.mono z⟩
  | _ => cases p
theorem Holds.rest {K : PySem.W.Frag} {S0 : List Slot} {σ0 : Sg} {c0 : Cfg} (h0 : Holds K S0 σ0 c0) : ∀ (own : List Nat) {S : List Slot} {σ : Sg} {c : Cfg}, plainAt own S0 = true → Holds K S σ c → Same c0.Z c.Z → S.length = S0.length →
    ∃ F' σ', (∀ b ∈ F', b ∈ c.F) ∧ Holds K (restS own S0 S) σ' ⟨c.Z, c.H, F'⟩ ∧ (restS own S0 S).length = S0.length ∧ (∀ j, j ∉ own → σ'[j]? = σ[j]?) ∧ (∀ j ∈ own, σ'[j]? = σ0[j]?) ∧ σ'.length = σ.length
  | [], S, σ, c, _, h, z, hl => ⟨c.F, σ, fun _ m => m, h, hl, fun _ _ => rfl, fun _ m => by simp at m, rfl⟩
  | v :: vs, S, σ, c, p, h, z, hl => by
    unfold plainAt at p
    rw [List.all_cons, Bool.and_eq_true] at p
    obtain ⟨F1, σ1, s1, h1, l1, n1, o1, e1⟩ := Holds.rest h0 vs (S := S) (σ := σ) (c := c) p.2 h z hl
    have ls := h.l.len
    have ls0 := h0.l.len
    unfold restS
    cases es : S0[v]? with
    | none =>
      have hv : S0.length ≤ v := List.getElem?_eq_none_iff.mp es
      refine ⟨F1, σ1, s1, h1, l1, fun j hj => n1 j fun m => hj (List.mem_cons_of_mem _ m), fun j hj => ?_, e1⟩
      rcases List.mem_cons.mp hj with e | m
      · subst e
        rw [List.getElem?_eq_none (by omega), List.getElem?_eq_none (by omega)]
      · exact o1 j m
    | some s =>
      rw [es] at p
      obtain ⟨A, Fi, B, x, q1, q2, q3, _⟩ := h0.l.at es
      have hv : v < S0.length := by
        rcases Nat.lt_or_ge v S0.length with z | z
        · exact z
        · rw [List.getElem?_eq_none z] at es; cases es
      obtain ⟨A', Fi', B', x', r1, r2, _, up⟩ := h1.l.at (List.getElem?_eq_getElem (show v < (restS vs S0 S).length by rw [l1]; exact hv))
      have sub : ∀ b ∈ A' ++ B', b ∈ F1 := fun b m => by
        have r1' : F1 = A' ++ (Fi' ++ B') := r1
        rw [r1']
        simp at m ⊢
        rcases m with m | m <;> simp [m]
      refine ⟨A' ++ B', σ1.set v x, fun b m => s1 b (sub b m), ⟨?_, ?_, fun a m => h1.zf a (sub a m), h1.zh⟩, by simp [l1], fun j hj => ?_, fun j hj => ?_, by simp [e1]⟩
      · exact up ⟨c.Z, c.H, A' ++ B'⟩ s x [] (Same.refl _) (fun _ _ => rfl) (q3.plain p.1 z)
      · have nd := h1.nd
        have r1' : F1 = A' ++ (Fi' ++ B') := r1
        have nd' : F1.Nodup := nd
        rw [r1'] at nd'
        show (A' ++ B').Nodup
        simp only [List.nodup_append, List.mem_append] at nd' ⊢
        grind
      · simp only [List.mem_cons, not_or] at hj
        rw [List.getElem?_set_ne (Ne.symm hj.1)]
        exact n1 j hj.2
      · by_cases e : j = v
        · subst e
          rw [List.getElem?_set_self (by omega), q2]
        · rw [List.getElem?_set_ne (Ne.symm e)]
          rcases List.mem_cons.mp hj with z | m
          · exact absurd z e
          · exact o1 j m
theorem wipe_get {σ : Sg} {j : Nat} : ∀ {vs : List Nat}, j ∉ vs → (L2.wipe σ vs)[j]? = σ[j]?
  | [], _ => rfl
  | v :: vs, h => by
    simp only [List.mem_cons, not_or] at h
    unfold L2.wipe
    rw [List.getElem?_set_ne (Ne.symm h.1)]
    exact wipe_get h.2
theorem Holds.back {K : PySem.W.Frag} {S0 S : List Slot} {σ : Sg} {c0 c : Cfg} {own : List Nat} (h0 : Holds K S0 σ c0) (p : plainAt own S0 = true) (h : Holds K S (L2.wipe σ own) c) (z : Same c0.Z c.Z) :
    ∃ F', (∀ b ∈ F', b ∈ c.F) ∧ Holds K (restS own S0 S) σ ⟨c.Z, c.H, F'⟩ := by
  have l0 := h0.l.len
  have l1 := h.l.len
  rw [wipe_length] at l1
  obtain ⟨F', σ', s, h', _, n, o, e⟩ := Holds.rest h0 own p h z (by omega)
  have es : σ' = σ := by
    apply List.ext_getElem?
    intro j
    by_cases hj : j ∈ own
    · exact o j hj
    · rw [n j hj, wipe_get hj]
  rw [es] at h'
  exact ⟨F', s, h'⟩
theorem wipeS_length (vs : List Nat) (S : List Slot) : (wipeS vs S).length = S.length := by
  induction vs with
  | nil => rfl
  | cons v vs ih =>
    unfold wipeS
    rw [List.length_set, ih]
theorem wipe_wipe (vs : List Nat) (τ : Sg) : L2.wipe (L2.wipe τ vs) vs = L2.wipe τ vs := by
  have aux : ∀ (us : List Nat) (τ : Sg), (∀ u ∈ us, u ∈ vs) → L2.wipe (L2.wipe τ us) vs = L2.wipe τ vs := by
    intro us
    induction us with
    | nil => intro τ _; rfl
    | cons u us ih =>
      intro τ hu
      show L2.wipe ((L2.wipe τ us).set u none) vs = _
      rw [wipe_set (hu u (by simp))]
      exact ih τ fun w hw => hu w (by simp [hw])
  exact aux vs τ fun _ h => h
def compL (own : List Nat) (g : Tg) (t : EM Bool) (e : EM D) : List D → EM (List D)
  | [], S => .ok [] S
  | d :: ds, S => match g d S with
    | none => .bad
    | some S1 => match t S1 with
      | .ok true S2 => match e S2 with
        | .ok y S3 => match compL own g t e ds (wipeS own S3) with
          | .ok ys S4 => .ok (y :: ys) S4
          | _ => .bad
        | _ => .bad
      | .ok false S2 => compL own g t e ds (wipeS own S2)
      | _ => .bad
def eComp (own : List Nat) (src : EM (List D)) (g : Tg) (t : EM Bool) (e : EM D) : EM (List D) := eBind src fun ds S => if plainAt own S && small ds.length then
    match compL own g t e ds (wipeS own S) with
    | .ok ys S' => .ok ys (restS own S S')
    | _ => .bad
  else .bad
def bYes : EM Bool := eRet true
def DTs (X : Cx) (W : WX) (ifs : List Expr) (f : EM Bool) : Prop := PTs X ifs (tB' (gx X W) f)
theorem dts_nil : DTs X W [] bYes := by
  refine ⟨fun pins s σ H Q I q => pts_nil.run pins s σ H Q I ?_⟩
  obtain ⟨S, Z, F, h, q⟩ := q
  exact q _ (Stp.refl _) h
theorem dts_one {c : Expr} {f : EM Bool} (h : DT X W c f) : DTs X W [c] f := pts_one h
/-- the new list while it is made -/
structure Mk1 (K : PySem.W.Frag) (c1 c : Cfg) (A : Addr) (acc : List D) : Prop where
  st : Stp c1 c
  hn : c1.H A = none
  at' : ∃ vs, c.H A = some (.lst vs) ∧ RpA K c.Z vs acc
  zn : c.Z A = none
  nf : A ∉ c.F
theorem Mk1.step {K : PySem.W.Frag} {c1 c c' : Cfg} {A : Addr} {acc : List D} (m : Mk1 K c1 c A acc) (s : Stp c c') : Mk1 K c1 c' A acc := by
  obtain ⟨vs, e, r⟩ := m.at'
  refine ⟨m.st.trans s, m.hn, ⟨vs, s.k _ _ e m.nf, r.mono s.z⟩, ?_, fun hm => ?_⟩
  · cases q : c'.Z A with
    | none => rfl
    | some o =>
      rcases s.n _ _ q with z | z | z | ⟨xs, z⟩
      · rw [m.zn] at z; cases z
      · rw [e] at z; cases z
      · exact absurd z m.nf
      · rw [e] at z; cases z
  · rcases s.f _ hm with z | z
    · exact m.nf z
    · rw [e] at z; cases z
theorem Mk1.sub {K : PySem.W.Frag} {c1 c : Cfg} {A : Addr} {acc : List D} {F' : List Addr} (m : Mk1 K c1 c A acc) (h : ∀ b ∈ F', b ∈ c.F) : Mk1 K c1 ⟨c.Z, c.H, F'⟩ A acc := m.step (Stp.sub h)
theorem Stp.tmpU {c1 c : Cfg} (s : Stp c1 c) {A : Addr} {o : HO} (hn : c1.H A = none) : Stp c1 (c.tmp A o) where
  z := s.z
  k := fun b x e hb => by
    have ne : b ≠ A := by
      rintro rfl
      rw [hn] at e
      cases e
    exact (upd_ne ne).trans (s.k b x e hb)
  t := fun b x e => by
    obtain ⟨o', e'⟩ := s.t b x e
    have ne : b ≠ A := by
      rintro rfl
      rw [hn] at e
      cases e
    exact ⟨o', (upd_ne ne).trans e'⟩
  n := s.n
  f := s.f
theorem Mk1.push {K : PySem.W.Frag} {c1 c : Cfg} {A : Addr} {acc : List D} {vs : List V} {v : V} {d : D} (m : Mk1 K c1 c A acc) (e : c.H A = some (.lst vs)) (ra : RpA K c.Z vs acc) (r : Rp K c.Z v d) : Mk1 K c1 (c.tmp A (.lst (vs ++ [v]))) A (acc ++ [d]) :=
  ⟨m.st.tmpU m.hn, m.hn, ⟨vs ++ [v], upd_same, ra.append (.cons r .nil)⟩, m.zn, m.nf⟩
theorem comp_rd {own : List Nat} {is : List Nat} {g : Tg} {t : EM Bool} {e : EM D} {m : EM (List D)} {σ : Sg} {H : Hp} {Q : VK} (hsub : ∀ i ∈ is, i ∈ own) (q : tF (gx X W) (eComp own m g t e) σ H Q) :
    tLc (tI (gx X W) m) (tG (gx X W) is g) (tB' (gx X W) t) (tD (gx X W) e) own σ H Q := by
  obtain ⟨S, Z, F, h, q⟩ := q
  refine ⟨S, Z, F, h, (Go.bind q).mono fun ds S1 c1 s1 h1 q1 J it A hA => ?_⟩
  by_cases hb : (plainAt own S1 && small ds.length) = true
  · rw [if_pos hb] at q1
    rw [Bool.and_eq_true] at hb
    obtain ⟨F0, sub0, h0⟩ := h1.wipe own
    have hsz : ds.length ≤ sizeLine := of_decide_eq_true hb.2
    -- what the whole loop comes to
    cases eC : compL own g t e ds (wipeS own S1) with
    | bad => simp only [eC] at q1; exact q1.elim
    | ex x S2 => simp only [eC] at q1; exact q1.elim
    | ok ys Sz =>
      simp only [eC] at q1
      refine ⟨fun i k H' => k = ds.length - i ∧ i ≤ ds.length ∧ ∃ S' c' acc rest, c'.H = H' ∧ Holds X.K S' (L2.wipe σ own) c' ∧ Mk1 X.K c1 c' A acc ∧ acc.length ≤ i ∧ compL own g t e (ds.drop i) S' = .ok rest Sz ∧ acc ++ rest = ys, ⟨ds.length, ?_⟩, fun i k H' w => ?_⟩
      · have hn0 : (⟨c1.Z, c1.H, F0⟩ : Cfg).H A = none := hA
        obtain ⟨s2, h2⟩ := h0.tmpS (o := .lst []) hn0
        refine ⟨by simp, by simp, wipeS own S1, (⟨c1.Z, c1.H, F0⟩ : Cfg).tmp A (.lst []), [], ys, rfl, h2, ⟨(Stp.sub sub0).tmpU hA, hA, ⟨[], upd_same, .nil⟩, h1.nf hA, fun mm => h1.nF hA (sub0 A mm)⟩, by simp, by simpa using eC, rfl⟩
      · obtain ⟨ek, hi, S', c', acc, rest, eH, h', mk, la, ec, ey⟩ := w
        subst eH
        by_cases hlt : i < ds.length
        · obtain ⟨go, yld⟩ := it.go i c' S' (L2.wipe σ own) hlt mk.st.z h'
          refine .inr ⟨go, fun H2 => ∃ S2 c2 acc2 rest2, c2.H = H2 ∧ Holds X.K S2 (L2.wipe σ own) c2 ∧ Mk1 X.K c1 c2 A acc2 ∧ acc2.length ≤ i + 1 ∧ compL own g t e (ds.drop (i + 1)) S2 = .ok rest2 Sz ∧ acc2 ++ rest2 = ys, fun H2 n => ?_, fun x H2 y => ?_⟩
          · obtain ⟨S2, c2, acc2, rest2, n1, n2, n3, n4, n5, n6⟩ := n
            exact ⟨ds.length - (i + 1), by omega, rfl, hlt, S2, c2, acc2, rest2, n1, n2, n3, n4, n5, n6⟩
          · obtain ⟨c2, d, e2, ed, st2, h2, rd⟩ := yld x H2 y
            subst e2
            have dr : ds.drop i = d :: ds.drop (i + 1) := by
              rw [List.drop_eq_getElem_cons hlt]
              rw [List.getElem?_eq_getElem hlt] at ed
              rw [Option.some.inj ed]
            rw [dr] at ec
            unfold compL at ec
            cases eg : g d S' with
            | none => simp only [eg] at ec; cases ec
            | some S3 =>
              simp only [eg] at ec
              refine ⟨S', c2.Z, c2.F, d, S3, h2, rd, eg, fun σ3 c3 st3 h3 on => ?_⟩
              have wσ : L2.wipe σ3 own = L2.wipe σ own := (on own hsub).trans (wipe_wipe own σ)
              refine ⟨wσ, S3, c3.Z, c3.F, h3, ?_⟩
              have m3 := (mk.step st2).step st3
              cases et : t S3 with
              | bad => simp only [et] at ec; cases ec
              | ex x S4 => simp only [et] at ec; cases ec
              | ok b S4 =>
                intro c4 st4 h4
                have m4 := m3.step st4
                cases b with
                | false =>
                  simp only [et] at ec
                  refine iteF ?_
                  obtain ⟨F5, sub5, h5⟩ := h4.wipe own
                  rw [wσ] at h5
                  exact ⟨_, ⟨c4.Z, c4.H, F5⟩, acc, rest, rfl, h5, m4.sub sub5, by omega, ec, ey⟩
                | true =>
                  simp only [et] at ec
                  refine iteT ?_
                  refine ⟨S4, c4.Z, c4.F, h4, ?_⟩
                  cases ee : e S4 with
                  | bad => simp only [ee] at ec; cases ec
                  | ex x S5 => simp only [ee] at ec; cases ec
                  | ok yv S5 =>
                    simp only [ee] at ec
                    intro c5 st5 h5 v rv
                    have m5 := m4.step st5
                    obtain ⟨vs, e5, r5⟩ := m5.at'
                    cases er : compL own g t e (ds.drop (i + 1)) (wipeS own S5) with
                    | bad => simp only [er] at ec; cases ec
                    | ex x S6 => simp only [er] at ec; cases ec
                    | ok ys2 S6 =>
                      simp only [er] at ec
                      cases ec
                      obtain ⟨F6, sub6, h6⟩ := h5.wipe own
                      rw [wσ] at h6
                      have m6 := m5.sub sub6
                      refine ⟨vs, e5, by have := r5.length; omega, _, (⟨c5.Z, c5.H, F6⟩ : Cfg).tmp A (.lst (vs ++ [v])), acc ++ [yv], ys2, rfl, h6.tmp m6.nf m6.zn fun _ _ => ⟨_, rfl⟩, m6.push e5 r5 rv, by simp; omega, er, by simpa using ey⟩
        · have e0 : ds.drop i = [] := List.drop_eq_nil_of_le (by omega)
          rw [e0] at ec
          cases ec
          rw [List.append_nil] at ey
          subst ey
          refine .inl ⟨it.stop i c' Sz (L2.wipe σ own) (by omega) mk.st.z h', ?_⟩
          obtain ⟨vs, ev, rv⟩ := mk.at'
          -- the state without the new list
          have hne : ∀ b, b ≠ A → (fun b => if b = A then none else c'.H b : Hp) b = c'.H b := fun b hb => if_neg hb
          have hcA : (fun b => if b = A then none else c'.H b : Hp) A = none := if_pos rfl
          have hh : Holds X.K Sz (L2.wipe σ own) ⟨c'.Z, fun b => if b = A then none else c'.H b, c'.F⟩ := by
            refine ⟨HoldsL.tr (c := c') (c' := ⟨c'.Z, fun b => if b = A then none else c'.H b, c'.F⟩) (Same.refl c'.Z) h'.l fun a ha => hne a fun z => mk.nf (z ▸ ha), h'.nd, h'.zf, fun b o q => ?_⟩
            have nb : b ≠ A := by
              rintro rfl
              have q' : c'.Z b = some o := q
              rw [mk.zn] at q'
              cases q'
            exact (hne b nb).trans (h'.zh b o q)
          obtain ⟨F7, sub7, h7⟩ := Holds.back h1 hb.1 hh mk.st.z
          have st7 : Stp c1 ⟨c'.Z, fun b => if b = A then none else c'.H b, F7⟩ := by
            refine ⟨mk.st.z, fun b o q hn => ?_, fun b o q => ?_, mk.st.n, fun b hm => mk.st.f b (sub7 b hm)⟩
            · have nb : b ≠ A := by
                rintro rfl
                rw [mk.hn] at q
                cases q
              exact (hne b nb).trans (mk.st.k b o q hn)
            · have nb : b ≠ A := by
                rintro rfl
                rw [mk.hn] at q
                cases q
              obtain ⟨o', q'⟩ := mk.st.t b o q
              exact ⟨o', (hne b nb).trans q'⟩
          have fin := q1 _ st7 h7 A vs hcA rv
          have eq : upd (fun b => if b = A then none else c'.H b) A (.lst vs) = c'.H := by
            funext b
            by_cases hb' : b = A
            · subst hb'
              rw [upd_same, ev]
            · rw [upd_ne hb']
              exact hne b hb'
          have fin' : Q (.ref A) (upd (fun b => if b = A then none else c'.H b) A (.lst vs)) := fin
          rw [eq] at fin'
          exact fin'
  · rw [if_neg hb] at q1
    exact q1.elim
theorem df_comp {elt tg iter : Expr} {ifs : List Expr} {scope : Scope} {own : List (Str × Nat)} {is : List Nat} {m : EM (List D)} {g : Tg} {t : EM Bool} {e : EM D} (hc : X.calm = true) (hN : X.N.Nodup) (hi : DI X W tg iter m) (ok : BlkOk X.N X.env.scope scope own)
    (hg : ∀ (s : Shared) (H : Hp) (C : Addr) (cl : List (Str × Addr)) (fp : List Addr), DG (X.blk s H scope (compEnvC scope cl C X.env) fp) W tg is g) (ht : ∀ (s : Shared) (H : Hp) (C : Addr) (cl : List (Str × Addr)) (fp : List Addr), DTs (X.blk s H scope (compEnvC scope cl C X.env) fp) W ifs t)
    (he : ∀ (s : Shared) (H : Hp) (C : Addr) (cl : List (Str × Addr)) (fp : List Addr), DE (X.blk s H scope (compEnvC scope cl C X.env) fp) W elt e) (hsub : ∀ i ∈ is, i ∈ own.map (·.2)) (hs : ∀ x, foldedSetIterable iter X.env x = pure x := by intro _; rfl) :
    DF X W (.ListComp elt [⟨tg, iter, ifs, 0⟩] scope pos) (eComp (own.map (·.2)) m g t e) := PE.wk (pe_lc (g := tG (gx X W) is g) (tt := tB' (gx X W) t) (te := tD (gx X W) e) hc hN hi ok hg ht he hs) fun σ H Q q => comp_rd hsub q
/-- name = [..] -/
theorem comp_own {own : List Nat} {is : List Nat} {g : Tg} {t : EM Bool} {e : EM D} {m : EM (List D)} {i : Nat} (hsub : ∀ i ∈ is, i ∈ own) (Q : Ends) (σ : Sg) (H : Hp) (q : tS (gx X W) (sOwn i (eComp own m g t e)) Q σ H) :
    tAsg (tLc (tI (gx X W) m) (tG (gx X W) is g) (tB' (gx X W) t) (tD (gx X W) e) own) (gName i) Q σ H := comp_rd hsub (own_rd Q σ H q)
theorem ds_ownLc (i : Nat) {y : Str} {py : Pos} {elt tg iter : Expr} {ifs : List Expr} {scope : Scope} {own : List (Str × Nat)} {spos : Pos} {is : List Nat} {m : EM (List D)} {g : Tg} {t : EM Bool} {e : EM D} (hc : X.calm = true) (hN : X.N.Nodup) (hi : DI X W tg iter m) (ok : BlkOk X.N X.env.scope scope own)
    (hg : ∀ (s : Shared) (H : Hp) (C : Addr) (cl : List (Str × Addr)) (fp : List Addr), DG (X.blk s H scope (compEnvC scope cl C X.env) fp) W tg is g) (ht : ∀ (s : Shared) (H : Hp) (C : Addr) (cl : List (Str × Addr)) (fp : List Addr), DTs (X.blk s H scope (compEnvC scope cl C X.env) fp) W ifs t)
    (he : ∀ (s : Shared) (H : Hp) (C : Addr) (cl : List (Str × Addr)) (fp : List Addr), DE (X.blk s H scope (compEnvC scope cl C X.env) fp) W elt e) (hsub : ∀ i ∈ is, i ∈ own.map (·.2))
    (hsw : swapsWith (.ListComp elt [⟨tg, iter, ifs, 0⟩] scope pos) (some (.Name y py)) spos.line X.env = pure true) (hy : X.N[i]? = some y := by rfl) (hyl : X.env.scope.names.lookup y = some .local := by rfl) (hs : ∀ x, foldedSetIterable iter X.env x = pure x := by intro _; rfl) :
    DS X W (.Assign [.Name y py] (.ListComp elt [⟨tg, iter, ifs, 0⟩] scope pos) spos) (sOwn i (eComp (own.map (·.2)) m g t e)) :=
  PS.wk (ps_setLc (g := tG (gx X W) is g) (tt := tB' (gx X W) t) (te := tD (gx X W) e) hc hN hy hyl hsw hi ok hg ht he hs) (comp_own hsub)
/-- the same, frozen at once -/
def sDat (i : Nat) (f : EM (List D)) : SM := sOf f fun ds S => if i < S.length then .nx (S.set i (.dat (.list ds))) else .bad
theorem dat_rd {f : EM (List D)} {i : Nat} (Q : Ends) (σ : Sg) (H : Hp) (q : tS (gx X W) (sDat i f) Q σ H) : tAsg (tF (gx X W) f) (gName i) Q σ H := by
  obtain ⟨S, Z, F, h, q⟩ := q
  refine ⟨S, Z, F, h, Go.toS q fun ds S1 c1 s1 h1 q1 p vs hp rs => ?_⟩
  split at q1
  · rename_i hl
    obtain ⟨s2, h2, r2⟩ := h1.layL hp rs
    obtain ⟨F', st, h'⟩ := h2.setD hl r2
    exact q1 _ ⟨(c1.lay p (.lst vs)).Z, (c1.lay p (.lst vs)).H, F'⟩ (s2.trans st) h'
  · exact q1.elim
theorem ds_datLc (i : Nat) {y : Str} {py : Pos} {elt tg iter : Expr} {ifs : List Expr} {scope : Scope} {own : List (Str × Nat)} {spos : Pos} {is : List Nat} {m : EM (List D)} {g : Tg} {t : EM Bool} {e : EM D} (hc : X.calm = true) (hN : X.N.Nodup) (hi : DI X W tg iter m) (ok : BlkOk X.N X.env.scope scope own)
    (hg : ∀ (s : Shared) (H : Hp) (C : Addr) (cl : List (Str × Addr)) (fp : List Addr), DG (X.blk s H scope (compEnvC scope cl C X.env) fp) W tg is g) (ht : ∀ (s : Shared) (H : Hp) (C : Addr) (cl : List (Str × Addr)) (fp : List Addr), DTs (X.blk s H scope (compEnvC scope cl C X.env) fp) W ifs t)
    (he : ∀ (s : Shared) (H : Hp) (C : Addr) (cl : List (Str × Addr)) (fp : List Addr), DE (X.blk s H scope (compEnvC scope cl C X.env) fp) W elt e) (hsub : ∀ i ∈ is, i ∈ own.map (·.2))
    (hsw : swapsWith (.ListComp elt [⟨tg, iter, ifs, 0⟩] scope pos) (some (.Name y py)) spos.line X.env = pure true) (hy : X.N[i]? = some y := by rfl) (hyl : X.env.scope.names.lookup y = some .local := by rfl) (hs : ∀ x, foldedSetIterable iter X.env x = pure x := by intro _; rfl) :
    DS X W (.Assign [.Name y py] (.ListComp elt [⟨tg, iter, ifs, 0⟩] scope pos) spos) (sDat i (eComp (own.map (·.2)) m g t e)) :=
  PS.wk (ps_setLc (g := tG (gx X W) is g) (tt := tB' (gx X W) t) (te := tD (gx X W) e) hc hN hy hyl hsw hi ok hg ht he hs) fun Q σ H q => comp_rd hsub (dat_rd Q σ H q)
end
end FW

/-! FwE: defs and their calls, the numbers that are drawn. -/
namespace FW
open PySem PySem.Spec L2
open PyProof.Rows hiding St
inductive Rs where
  | ok (d : D)
  | ex (e : Exn)
  | bad
def startS (ds : List D) (n : Nat) : List Slot := ds.map Slot.dat ++ List.replicate (n - ds.length) Slot.un
def outR : Out → Rs
  | .rt d _ => .ok d
  | .nx _ => .ok .none
  | .ex e _ => .ex e
  | _ => .bad
def runF (n : Nat) (body : SM) (ds : List D) : Rs := outR (body (startS ds n))
/-- what a def of data promises: nothing is raised; something may be raised -/
def spD0 (K : PySem.W.Frag) (m : Nat) (g : List D → Rs) : Sp := fun vs H Q _ => ∃ ds Z, ds.length = m ∧ Same Z H ∧ RpA K Z vs ds ∧
  match g ds with
  | .ok d => ∀ c' v, Stp ⟨Z, H, []⟩ c' → Same c'.Z c'.H → Rp K c'.Z v d → Q v c'.H
  | _ => False
def spDX (K : PySem.W.Frag) (mg : Str → Option Value) (m : Nat) (g : List D → Rs) : Sp := fun vs H Q E => ∃ ds Z, ds.length = m ∧ Same Z H ∧ RpA K Z vs ds ∧
  match g ds with
  | .ok d => ∀ c' v, Stp ⟨Z, H, []⟩ c' → Same c'.Z c'.H → Rp K c'.Z v d → Q v c'.H
  | .ex e => ∀ c' cls dx, Stp ⟨Z, H, []⟩ c' → Same c'.Z c'.H → ExOk mg c'.H e cls dx → E cls dx c'.H
  | .bad => False
theorem startL {K : PySem.W.Frag} {c : Cfg} : ∀ {ds : List D} {vs : List V} (n : Nat), RpA K c.Z vs ds → HoldsL K c (ds.map Slot.dat ++ List.replicate n Slot.un) (vs.map some ++ List.replicate n none) []
  | [], _, 0, .nil => .nil
  | [], _, n + 1, .nil => by
    have ih := startL (K := K) (c := c) (ds := []) (vs := []) n .nil
    have q : HoldsL K c (Slot.un :: (List.map Slot.dat [] ++ List.replicate n Slot.un)) (none :: (List.map some [] ++ List.replicate n none)) ([] ++ []) := .cons (show SlotOk K c .un none [] from rfl) ih
    simpa [List.replicate_succ] using q
  | d :: ds, _, n, .cons (v := v) (vs := vs) r rs => by
    have ih := startL (K := K) (c := c) n rs
    have q : HoldsL K c (Slot.dat d :: (ds.map Slot.dat ++ List.replicate n Slot.un)) (some v :: (vs.map some ++ List.replicate n none)) ([] ++ []) := .cons (show SlotOk K c (.dat d) (some v) [] from ⟨rfl, v, rfl, r⟩) ih
    simpa using q
theorem startH {K : PySem.W.Frag} {Z H : Hp} {N : List Str} {ds : List D} {vs : List V} (z : Same Z H) (r : RpA K Z vs ds) : Holds K (startS ds N.length) (L2.start N vs) ⟨Z, H, []⟩ := by
  refine ⟨?_, List.nodup_nil, fun a m => by simp at m, z⟩
  unfold startS L2.start
  rw [r.length]
  exact startL _ r
section
variable {P : Program} {w : World} {K : PySem.W.Frag} {mg : Str → Option Value} {base : Heap}
abbrev W0 : WX := fun _ _ _ _ => False
theorem ok_D0 {x qual : Str} {st : Stmt} {f : Addr} {fd : FuncData} {N ps : List Str} {k : Nat} {body : SM} (F : Fun K x qual st f fd) (S : FnScope N ps (defScope st))
    (hb : ∀ (cdv : Value) (A : Around) (outer : List Env) (s : Shared) (H : Hp) (E : XK), Room k (A.deeper (envOfC qual (defScope st) s.heap.objs.size f cdv)) →
      DSs (cxOf CX0 P w K mg base N qual (defScope st) f cdv A outer s H E).nox W0 (defBody st) body) : FnOk P w K mg base CX0 (k + 1) f fd ps (spD0 K ps.length (runF N.length body)) := by
  refine F.ok S (fun vs H Q E h => ?_) (fun cdv A outer s H vs Q E hr h => ?_)
  · obtain ⟨ds, Z, hl, _, r, _⟩ := h
    rw [r.length]
    exact hl
  · obtain ⟨ds, Z, hl, z, r, q⟩ := h
    refine ⟨_, hb cdv A outer s H E hr, startS ds N.length, Z, [], startH z r, ?_⟩
    unfold runF outR at q
    cases e : body (startS ds N.length) with
    | nx S' => rw [e] at q; exact fun σ' c' st' h' => q c' .non st' h'.zh .non
    | rt d S' => rw [e] at q; exact fun σ' c' v st' h' rv => q c' v st' h'.zh rv
    | bk S' => rw [e] at q; exact q.elim
    | ct S' => rw [e] at q; exact q.elim
    | ex x S' => rw [e] at q; exact q.elim
    | bad => rw [e] at q; exact q.elim
theorem ok_DX {x qual : Str} {st : Stmt} {f : Addr} {fd : FuncData} {N ps : List Str} {k : Nat} {body : SM} (F : Fun K x qual st f fd) (S : FnScope N ps (defScope st))
    (hb : ∀ (cdv : Value) (A : Around) (outer : List Env) (s : Shared) (H : Hp) (E : XK), Room k (A.deeper (envOfC qual (defScope st) s.heap.objs.size f cdv)) →
      DSs (cxOf (L2.CX P w) P w K mg base N qual (defScope st) f cdv A outer s H E) (fun cls d _ H => E cls d H) (defBody st) body) : FnOk P w K mg base (L2.CX P w) (k + 1) f fd ps (spDX K mg ps.length (runF N.length body)) := by
  refine F.okX S (fun vs H Q E h => ?_) (fun cdv A outer s H vs Q E hr h => ?_)
  · obtain ⟨ds, Z, hl, _, r, _⟩ := h
    rw [r.length]
    exact hl
  · obtain ⟨ds, Z, hl, z, r, q⟩ := h
    refine ⟨_, hb cdv A outer s H E hr, startS ds N.length, Z, [], startH z r, ?_⟩
    unfold runF outR at q
    cases e : body (startS ds N.length) with
    | nx S' => rw [e] at q; exact fun σ' c' st' h' => q c' .non st' h'.zh .non
    | rt d S' => rw [e] at q; exact fun σ' c' v st' h' rv => q c' v st' h'.zh rv
    | bk S' => rw [e] at q; exact q.elim
    | ct S' => rw [e] at q; exact q.elim
    | ex x S' => rw [e] at q; exact fun σ' c' cls dx st' h' x => q c' cls dx st' h'.zh x
    | bad => rw [e] at q; exact q.elim
/-- a promise that is never asked -/
theorem ok_bad {CX : CXT} {f : Addr} {fd : FuncData} {ps : List Str} {k m : Nat} : FnOk P w K mg base CX k f fd ps (spD0 K m fun _ => .bad) where
  len := fun vs H Q E h => by obtain ⟨_, _, _, _, _, q⟩ := h; exact q.elim
  run := fun A outer s H args us vs Q E _ _ _ _ h => by obtain ⟨_, _, _, _, _, q⟩ := h; exact q.elim
theorem ok_badX {CX : CXT} {f : Addr} {fd : FuncData} {ps : List Str} {k m : Nat} : FnOk P w K mg base CX k f fd ps (spDX K mg m fun _ => .bad) where
  len := fun vs H Q E h => by obtain ⟨_, _, _, _, _, q⟩ := h; exact q.elim
  run := fun A outer s H args us vs Q E _ _ _ _ h => by obtain ⟨_, _, _, _, _, q⟩ := h; exact q.elim
/-! ### the drawn numbers -/
inductive Rw where
  | ok (d : D) (k : Int) (ns : List Int)
  | bad
def outW (a : Addr) : Out → Rw
  | .rt d S => match S with
    | .drw a' k ns :: _ => if a' = a then .ok d k ns else .bad
    | _ => .bad
  | _ => .bad
def runW (n : Nat) (body : SM) (a : Addr) (k : Int) (ns : List Int) (ds : List D) : Rw := outW a (body (.drw a k ns :: startS ds (n - 1)))
def spW (K : PySem.W.Frag) (m : Nat) (g : Addr → Int → List Int → List D → Rw) : Sp := fun vs H Q _ => ∃ a k ns vs' ds Z F, vs = .ref a :: vs' ∧ ds.length + 1 = m ∧ RpA K Z vs' ds ∧ Holds K [.drw a k ns] [some (.ref a)] ⟨Z, H, F⟩ ∧
  match g a k ns ds with
  | .ok d k' ns' => ∀ c' v, Stp ⟨Z, H, F⟩ c' → Holds K [.drw a k' ns'] [some (.ref a)] c' → Rp K c'.Z v d → Q v c'.H
  | .bad => False
theorem HoldsL.one {c : Cfg} {s : Slot} {x : Option V} {F : List Addr} (h : HoldsL K c [s] [x] F) : SlotOk K c s x F := by
  cases h with
  | cons h1 h2 =>
    cases h2
    rw [List.append_nil]
    exact h1
theorem Holds.one {c : Cfg} {s : Slot} {x : Option V} (h : Holds K [s] [x] c) : SlotOk K c s x c.F := h.l.one
theorem startHW {N : List Str} {Z H : Hp} {F : List Addr} {a : Addr} {k : Int} {ns : List Int} {ds : List D} {vs : List V} (h : Holds K [.drw a k ns] [some (.ref a)] ⟨Z, H, F⟩) (r : RpA K Z vs ds) (hN : 0 < N.length) :
    Holds K (.drw a k ns :: startS ds (N.length - 1)) (L2.start N (.ref a :: vs)) ⟨Z, H, F⟩ := by
  refine ⟨?_, h.nd, h.zf, h.zh⟩
  have e : L2.start N (.ref a :: vs) = some (.ref a) :: (vs.map some ++ List.replicate (N.length - 1 - vs.length) none) := by
    unfold L2.start
    rw [List.map_cons, List.cons_append, List.length_cons]
    congr 3
    omega
  rw [e]
  have q : HoldsL K ⟨Z, H, F⟩ (.drw a k ns :: startS ds (N.length - 1)) (some (.ref a) :: (vs.map some ++ List.replicate (N.length - 1 - vs.length) none)) (F ++ []) := by
    refine .cons h.one ?_
    unfold startS
    rw [r.length]
    exact startL (c := ⟨Z, H, F⟩) _ r
  rw [List.append_nil] at q
  exact q
theorem Holds.first {S : List Slot} {σ : Sg} {c : Cfg} {a : Addr} {k : Int} {ns : List Int} (h : Holds K (.drw a k ns :: S) σ c) :
    ∃ F', (∀ b ∈ F', b ∈ c.F) ∧ Holds K [.drw a k ns] [some (.ref a)] ⟨c.Z, c.H, F'⟩ := by
  obtain ⟨A, Fi, B, x, e1, e2, o, _⟩ := h.l.at (i := 0) rfl
  have sub : ∀ b ∈ Fi, b ∈ c.F := fun b m => by
    rw [e1]
    simp [m]
  have ex : x = some (.ref a) := by
    obtain ⟨_, _, ex, _⟩ := o
    exact ex
  subst ex
  refine ⟨Fi, sub, ⟨?_, ?_, fun b m => h.zf b (sub b m), h.zh⟩⟩
  · have q : HoldsL K ⟨c.Z, c.H, Fi⟩ [.drw a k ns] [some (.ref a)] (Fi ++ []) := .cons (o.tr (Same.refl _) fun _ _ => rfl) .nil
    rw [List.append_nil] at q
    exact q
  · have nd := h.nd
    rw [e1] at nd
    simp only [List.nodup_append] at nd
    exact nd.2.1.1
theorem ok_W {x qual : Str} {st : Stmt} {f : Addr} {fd : FuncData} {N ps : List Str} {k : Nat} {body : SM} (F : Fun K x qual st f fd) (S : FnScope N ps (defScope st)) (hN : 0 < N.length)
    (hb : ∀ (cdv : Value) (A : Around) (outer : List Env) (s : Shared) (H : Hp) (E : XK), Room k (A.deeper (envOfC qual (defScope st) s.heap.objs.size f cdv)) →
      DSs (cxOf CX0 P w K mg base N qual (defScope st) f cdv A outer s H E).nox W0 (defBody st) body) : FnOk P w K mg base CX0 (k + 1) f fd ps (spW K ps.length (runW N.length body)) := by
  refine F.ok S (fun vs H Q E h => ?_) (fun cdv A outer s H vs Q E hr h => ?_)
  · obtain ⟨a, k, ns, vs', ds, Z, F, rfl, hl, r, _⟩ := h
    rw [List.length_cons, r.length]
    exact hl
  · obtain ⟨a, k, ns, vs', ds, Z, F, rfl, hl, r, h, q⟩ := h
    refine ⟨_, hb cdv A outer s H E hr, .drw a k ns :: startS ds (N.length - 1), Z, F, startHW h r hN, ?_⟩
    unfold runW outW at q
    cases e : body (.drw a k ns :: startS ds (N.length - 1)) with
    | rt d S' =>
      rw [e] at q
      match S', q with
      | [], q => exact q.elim
      | .un :: _, q => exact q.elim
      | .dat _ :: _, q => exact q.elim
      | .own _ :: _, q => exact q.elim
      | .dic _ _ :: _, q => exact q.elim
      | .obj _ _ _ _ _ :: _, q => exact q.elim
      | .drw a' k' ns' :: S', q =>
        by_cases ea : a' = a
        · subst ea
          simp only [if_true] at q
          intro σ' c' v st' h' rv
          obtain ⟨F', sub, h2⟩ := h'.first
          exact q ⟨c'.Z, c'.H, F'⟩ v (st'.trans (Stp.sub sub)) h2 rv
        · simp only [if_neg ea] at q
    | nx S' => rw [e] at q; exact q.elim
    | bk S' => rw [e] at q; exact q.elim
    | ct S' => rw [e] at q; exact q.elim
    | ex x S' => rw [e] at q; exact q.elim
    | bad => rw [e] at q; exact q.elim
end

/-! ### calls -/
section
variable {X : Cx} {W : WX} {pos p : Pos} {x : Str} {e : Expr} {es : List Expr}
def rs0 : Rs → EM D
  | .ok d => eRet d
  | _ => fun _ => .bad
def rsX : Rs → EM D
  | .ok d => eRet d
  | .ex e => fun S => .ex e S
  | .bad => fun _ => .bad
/-- a call of a def that raises nothing; of one that may -/
def eCall (m : Nat) (g : List D → Rs) (fa : EM (List D)) : EM D := eBind fa fun ds => if ds.length = m then rs0 (g ds) else fun _ => .bad
def eCallX (m : Nat) (g : List D → Rs) (fa : EM (List D)) : EM D := eBind fa fun ds => if ds.length = m then rsX (g ds) else fun _ => .bad
theorem Holds.afterC {K : PySem.W.Frag} {S : List Slot} {σ : Sg} {c c' : Cfg} (h : Holds K S σ c) (st : Stp ⟨c.Z, c.H, []⟩ c') (z : Same c'.Z c'.H) : Stp c ⟨c'.Z, c'.H, c.F⟩ ∧ Holds K S σ ⟨c'.Z, c'.H, c.F⟩ := by
  have kk : ∀ b o, c.H b = some o → c'.H b = some o := fun b o q => st.k b o q (by simp)
  refine ⟨⟨st.z, fun b o q _ => kk b o q, fun b o q => ⟨o, kk b o q⟩, fun b o q => ?_, fun b m => .inl m⟩, ⟨HoldsL.tr (c := c) (c' := ⟨c'.Z, c'.H, c.F⟩) st.z h.l fun a m => ?_, h.nd, fun a m => ?_, z⟩⟩
  · rcases st.n b o q with z | z | z | z
    · exact .inl z
    · exact .inr (.inl z)
    · simp at z
    · exact .inr (.inr (.inr z))
  · obtain ⟨o, q, _⟩ := h.l.own a m
    show c'.H a = c.H a
    rw [kk a o q, q]
  · show c'.Z a = none
    cases q : c'.Z a with
    | none => rfl
    | some o =>
      obtain ⟨o', q', q2⟩ := h.l.own a m
      rcases st.n a o q with z | z | z | ⟨xs, z⟩
      · have z' : c.Z a = some o := z
        rw [h.zf a m] at z'
        cases z'
      · have z' : c.H a = none := z
        rw [q'] at z'
        cases z'
      · simp at z
      · have z' : c.H a = some (.tup xs) := z
        rw [q'] at z'
        exact absurd (Option.some.inj z') (q2 _)
theorem de_call {k m : Nat} {f : Addr} {fd : FuncData} {ps : List Str} {g : List D → Rs} {fa : EM (List D)} (F : FnOk X.prog X.w X.K X.mg X.base CX0 k f fd ps (spD0 X.K m g)) (hr : Room k X.A) (hg : Gl X x) (hm : X.mg x = some (.ref f)) (hk : PySem.W.keepIn X.K (.ref f) = true) (hb : Binds X.K fd ps [])
    (ha : DA X W (e :: es) fa) (hdb : (x == ("__debug__" : Str)) = false := by decide) (he : starEach (e :: es) X.env = (false, eval e X.env) :: starEach es X.env := by rfl) (hpl : (backTo pos (starEach es X.env)).any (·.1) = false := by rfl) :
    DE X W (.Call (.Name x p) (e :: es) [] pos) (eCall m g fa) := by
  refine PE.wk (pe_call (E := E0) F hr hg hm hk hb .nil pass0 ha hdb he hpl) fun σ H Q q => ?_
  obtain ⟨S, Z, F, h, q⟩ := q
  refine ⟨S, Z, F, h, (Go.bind q).mono fun ds S1 c1 s1 h1 q1 vs rs => ?_⟩
  by_cases hl : ds.length = m
  · rw [if_pos hl] at q1
    refine ⟨ds, c1.Z, hl, h1.zh, by rw [List.append_nil]; exact rs, ?_⟩
    cases eg : g ds with
    | bad => rw [eg] at q1; exact q1.elim
    | ex y => rw [eg] at q1; exact q1.elim
    | ok d =>
      rw [eg] at q1
      intro c' v st z rv
      obtain ⟨s2, h2⟩ := h1.afterC st z
      exact q1 _ s2 h2 v rv
  · rw [if_neg hl] at q1
    exact q1.elim
theorem de_callX {k m : Nat} {f : Addr} {fd : FuncData} {ps : List Str} {g : List D → Rs} {fa : EM (List D)} (tk : Takes X W) (F : FnOk X.prog X.w X.K X.mg X.base (L2.CX X.prog X.w) k f fd ps (spDX X.K X.mg m g)) (hr : Room k X.A) (hg : Gl X x) (hm : X.mg x = some (.ref f)) (hk : PySem.W.keepIn X.K (.ref f) = true) (hb : Binds X.K fd ps [])
    (ha : DA X W (e :: es) fa) (hdb : (x == ("__debug__" : Str)) = false := by decide) (he : starEach (e :: es) X.env = (false, eval e X.env) :: starEach es X.env := by rfl) (hpl : (backTo pos (starEach es X.env)).any (·.1) = false := by rfl) :
    DE X W (.Call (.Name x p) (e :: es) [] pos) (eCallX m g fa) := by
  refine PE.wk (pe_callS F hr hg hm hk hb (fun σ => passAt tk σ) ha hdb he hpl) fun σ H Q q => ?_
  obtain ⟨S, Z, F, h, q⟩ := q
  refine ⟨S, Z, F, h, (Go.bind q).mono fun ds S1 c1 s1 h1 q1 vs rs => ?_⟩
  by_cases hl : ds.length = m
  · rw [if_pos hl] at q1
    refine ⟨ds, c1.Z, hl, h1.zh, rs, ?_⟩
    cases eg : g ds with
    | bad => rw [eg] at q1; exact q1.elim
    | ex y =>
      rw [eg] at q1
      intro c' cls dx st z xo
      obtain ⟨s2, h2⟩ := h1.afterC st z
      exact q1 ⟨c'.Z, c'.H, c1.F⟩ cls dx s2 h2 xo
    | ok d =>
      rw [eg] at q1
      intro c' v st z rv
      obtain ⟨s2, h2⟩ := h1.afterC st z
      exact q1 _ s2 h2 v rv
  · rw [if_neg hl] at q1
    exact q1.elim
/-- a call that draws: the state is the first argument, in slot i -/
def eCallW (i m : Nat) (g : Addr → Int → List Int → List D → Rw) (fa : EM (List D)) : EM D := fun S0 => match S0[i]? with
  | some (.drw _ _ _) => eBind fa (fun ds S => match S[i]? with
    | some (.drw a k ns) => if ds.length + 1 = m then (match g a k ns ds with
      | .ok d k' ns' => .ok d (S.set i (.drw a k' ns'))
      | .bad => .bad) else .bad
    | _ => .bad) S0
  | _ => .bad
theorem Holds.drwAt {K : PySem.W.Frag} {S : List Slot} {σ : Sg} {c : Cfg} {i : Nat} {a : Addr} {k : Int} {ns : List Int} (h : Holds K S σ c) (e : S[i]? = some (.drw a k ns)) : σ[i]? = some (some (V.ref a)) := by
  obtain ⟨A, Fi, B, x, _, e2, ⟨_, _, e3, _⟩, _⟩ := h.l.at e
  subst e3
  exact e2
/-- behind a call that changed the state in slot i -/
theorem Holds.drwSet {K : PySem.W.Frag} {S : List Slot} {σ : Sg} {c : Cfg} {i : Nat} {a : Addr} {k : Int} {ns : List Int} (h : Holds K S σ c) (e : S[i]? = some (.drw a k ns)) :
    ∃ Fi, Holds K [.drw a k ns] [some (.ref a)] ⟨c.Z, c.H, Fi⟩ ∧ ∀ c' k' ns', Stp ⟨c.Z, c.H, Fi⟩ c' → Holds K [.drw a k' ns'] [some (.ref a)] c' →
      ∃ F', Stp c ⟨c'.Z, c'.H, F'⟩ ∧ Holds K (S.set i (.drw a k' ns')) σ ⟨c'.Z, c'.H, F'⟩ := by
  have e2 := h.drwAt e
  obtain ⟨A, Fi, B, x, e1, e2', o, up⟩ := h.l.at e
  rw [e2] at e2'
  cases e2'
  have nd := h.nd
  rw [e1] at nd
  have inF : ∀ b ∈ Fi, b ∈ c.F := fun b m => by
    rw [e1]
    simp [m]
  have inAB : ∀ b ∈ A ++ B, b ∈ c.F ∧ b ∉ Fi := fun b m => by
    refine ⟨?_, ?_⟩
    · rw [e1]
      simp at m ⊢
      rcases m with m | m <;> simp [m]
    · simp only [List.nodup_append, List.mem_append] at nd m
      grind
  refine ⟨Fi, ⟨?_, ?_, fun b m => h.zf b (inF b m), h.zh⟩, fun c' k' ns' st h' => ?_⟩
  · have q : HoldsL K ⟨c.Z, c.H, Fi⟩ [.drw a k ns] [some (.ref a)] (Fi ++ []) := .cons (o.tr (Same.refl _) fun _ _ => rfl) .nil
    rw [List.append_nil] at q
    exact q
  · show Fi.Nodup
    simp only [List.nodup_append] at nd
    exact nd.2.1.1
  · have keep : ∀ b ∈ A ++ B, c'.H b = c.H b := fun b m => by
      obtain ⟨m1, m2⟩ := inAB b m
      obtain ⟨o, q, _⟩ := h.l.own b m1
      rw [st.k b o q m2, q]
    refine ⟨A ++ (c'.F ++ B), ⟨st.z, fun b o q hn => st.k b o q fun m => hn (inF b m), st.t, fun b o q => ?_, fun b m => ?_⟩, ⟨?_, ?_, fun b m => ?_, h'.zh⟩⟩
    · rcases st.n b o q with z | z | z | z
      · exact .inl z
      · exact .inr (.inl z)
      · exact .inr (.inr (.inl (inF b z)))
      · exact .inr (.inr (.inr z))
    · have m' : b ∈ A ++ (c'.F ++ B) := m
      simp only [List.mem_append] at m'
      rcases m' with m' | m' | m'
      · exact .inl (inAB b (by simp [m'])).1
      · rcases st.f b m' with z | z
        · exact .inl (inF b z)
        · exact .inr z
      · exact .inl (inAB b (by simp [m'])).1
    · have q := up ⟨c'.Z, c'.H, A ++ (c'.F ++ B)⟩ (.drw a k' ns') (some (.ref a)) c'.F st.z keep h'.one
      rw [list_set_self e2] at q
      exact q
    · show (A ++ (c'.F ++ B)).Nodup
      have dis : ∀ b ∈ A ++ B, b ∉ c'.F := fun b m m2 => by
        obtain ⟨m1, m3⟩ := inAB b m
        obtain ⟨o, q, _⟩ := h.l.own b m1
        rcases st.f b m2 with z | z
        · exact m3 z
        · have z' : c.H b = none := z
          rw [q] at z'
          cases z'
      have nd' := h'.nd
      simp only [List.nodup_append, List.mem_append] at nd dis ⊢
      grind
    · have m' : b ∈ A ++ (c'.F ++ B) := m
      have zAB : ∀ b ∈ A ++ B, c'.Z b = none := fun b m => by
        obtain ⟨m1, m3⟩ := inAB b m
        cases q : c'.Z b with
        | none => rfl
        | some o =>
          obtain ⟨o', q', q2⟩ := h.l.own b m1
          rcases st.n b o q with z | z | z | ⟨xs, z⟩
          · have z' : c.Z b = some o := z
            rw [h.zf b m1] at z'
            cases z'
          · have z' : c.H b = none := z
            rw [q'] at z'
            cases z'
          · exact absurd z m3
          · have z' : c.H b = some (.tup xs) := z
            rw [q'] at z'
            exact absurd (Option.some.inj z') (q2 _)
      simp only [List.mem_append] at m' zAB
      rcases m' with m' | m' | m'
      · exact zAB b (.inl m')
      · exact h'.zf b m'
      · exact zAB b (.inr m')
theorem de_callW (i : Nat) {k m : Nat} {f : Addr} {fd : FuncData} {ps : List Str} {g : Addr → Int → List Int → List D → Rw} {fa : EM (List D)} {y : Str} {p2 : Pos} (F : FnOk X.prog X.w X.K X.mg X.base CX0 k f fd ps (spW X.K m g)) (hr : Room k X.A) (hg : Gl X x) (hm : X.mg x = some (.ref f)) (hk : PySem.W.keepIn X.K (.ref f) = true) (hb : Binds X.K fd ps [])
    (ha : DA X W es fa) (hN : X.N[i]? = some y := by rfl) (hv : Vis X.env.scope y := by first | exact Or.inl rfl | exact Or.inr (Or.inl rfl) | exact Or.inr (Or.inr rfl)) (hd : (y == ("__debug__" : Str)) = false := by decide) (hcd : (y == ("__classdict__" : Str)) = false := by decide)
    (hs : starEach (.Name y p2 :: es) X.env = (false, eval (.Name y p2) X.env) :: starEach es X.env := by rfl) (hdb : (x == ("__debug__" : Str)) = false := by decide) (hpl : (backTo pos (starEach es X.env)).any (·.1) = false := by rfl) :
    DE X W (.Call (.Name x p) (.Name y p2 :: es) [] pos) (eCallW i m g fa) := by
  refine PE.wk (pe_call (E := E0) F hr hg hm hk hb .nil pass0 (pa_cons (pe_var hN hv hd hcd) ha hs) hdb hs hpl) fun σ H Q q => ?_
  obtain ⟨S, Z, F, h, q⟩ := q
  unfold eCallW at q
  split at q
  · rename_i a0 k0 ns0 e0
    refine ⟨.ref a0, h.drwAt e0, S, Z, F, h, (Go.bind q).mono fun ds S1 c1 s1 h1 q1 vs rs => ?_⟩
    split at q1
    · rename_i a1 k1 ns1 e1
      have ea : a1 = a0 := by
        have z1 := h1.drwAt e1
        rw [h.drwAt e0] at z1
        cases z1
        rfl
      subst ea
      by_cases hl : ds.length + 1 = m
      · rw [if_pos hl] at q1
        obtain ⟨Fi, hs, back⟩ := h1.drwSet e1
        show spW X.K m g ((V.ref a1 :: vs) ++ []) c1.H Q E0
        rw [List.append_nil]
        refine ⟨a1, k1, ns1, vs, ds, c1.Z, Fi, rfl, hl, rs, hs, ?_⟩
        cases eg : g a1 k1 ns1 ds with
        | bad => simp only [eg] at q1; exact q1.elim
        | ok d k' ns' =>
          simp only [eg] at q1
          intro c' v st h' rv
          obtain ⟨F', s2, h2⟩ := back c' k' ns' st h'
          exact q1 ⟨c'.Z, c'.H, F'⟩ s2 h2 v rv
      · rw [if_neg hl] at q1
        exact q1.elim
    · exact q1.elim
  · exact q.elim
end
end FW

/-! FwM: dicts as data. -/
namespace FW
open PySem PySem.Spec L2
open PyProof.Rows hiding St
def sameK1 : D → D → Bool
  | .int i, .int j => decide (i = j)
  | .str x, .str y => decide (x = y)
  | _, _ => false
def sameKs : List D → List D → Bool
  | [], [] => true
  | a :: as, b :: bs => sameK1 a b && sameKs as bs
  | _, _ => false
def sameK : D → D → Bool
  | .tuple xs, .tuple ys => sameKs xs ys
  | a, b => sameK1 a b
def isK1 : D → Bool
  | .int _ => true
  | .str _ => true
  | _ => false
def isKey : Bool → D → Bool
  | false, d => isK1 d
  | true, .tuple ds => ds.all isK1
  | true, _ => false
theorem sameK1_kD (a b : Key) : sameK1 (kD a) (kD b) = decide (a = b) := by
  cases a <;> cases b <;> simp [kD, sameK1]
theorem sameK_kD (a b : Key) : sameK (kD a) (kD b) = decide (a = b) := by
  rw [← sameK1_kD]
  cases a <;> cases b <;> rfl
theorem sameKs_kD : ∀ a b : List Key, sameKs (a.map kD) (b.map kD) = decide (a = b)
  | [], [] => by simp [sameKs]
  | [], _ :: _ => by simp [sameKs]
  | _ :: _, [] => by simp [sameKs]
  | x :: a, y :: b => by
    rw [List.map_cons, List.map_cons, sameKs, sameKs_kD a b, sameK1_kD]
    simp
theorem sameK_kTD (a b : List Key) : sameK (kTD a) (kTD b) = decide (a = b) := sameKs_kD a b
theorem isK1_get {d : D} (h : isK1 d = true) : ∃ k, d = kD k := by
  cases d with
  | int i => exact ⟨.inl i, rfl⟩
  | str x => exact ⟨.inr x, rfl⟩
  | _ => cases h
theorem isK1_all : ∀ {ds : List D}, ds.all isK1 = true → ∃ ks : List Key, ds = ks.map kD
  | [], _ => ⟨[], rfl⟩
  | d :: ds, h => by
    rw [List.all_cons, Bool.and_eq_true] at h
    obtain ⟨k, rfl⟩ := isK1_get h.1
    obtain ⟨ks, rfl⟩ := isK1_all h.2
    exact ⟨k :: ks, rfl⟩
theorem isK1_kD (k : Key) : isK1 (kD k) = true := by cases k <;> rfl
theorem isKey_t {d : D} (h : isKey true d = true) : ∃ ks, d = kTD ks := by
  cases d with
  | tuple ds =>
    obtain ⟨ks, rfl⟩ := isK1_all h
    exact ⟨ks, rfl⟩
  | _ => cases h
theorem Rp.keyV {K : PySem.W.Frag} {Z : Hp} {y : V} {k : Key} (h : Rp K Z y (kD k)) : y = kV k := by
  cases k with
  | inl i => cases h; rfl
  | inr x => cases h; rfl
theorem RpA.keyV {K : PySem.W.Frag} {Z : Hp} : ∀ {ks : List Key} {vs : List V}, RpA K Z vs (ks.map kD) → vs = ks.map kV
  | [], _, h => by cases h; rfl
  | k :: ks, _, h => by
    cases h with
    | cons h1 h2 => rw [h1.keyV, RpA.keyV h2]; rfl
theorem RpA.ofKey {K : PySem.W.Frag} {Z : Hp} : ∀ ks : List Key, RpA K Z (ks.map kV) (ks.map kD)
  | [] => .nil
  | .inl i :: ks => .cons (.int i) (RpA.ofKey ks)
  | .inr x :: ks => .cons (.str x) (RpA.ofKey ks)
theorem Rp.keyT {K : PySem.W.Frag} {Z : Hp} {y : V} {ks : List Key} (h : Rp K Z y (kTD ks)) : ∃ b, y = .ref b ∧ Z b = some (.tup (ks.map kV)) := by
  unfold kTD at h
  cases h with
  | tup h1 h2 =>
    rw [h2.keyV] at h1
    exact ⟨_, rfl, h1⟩
/-! ### tables -/
def esGet (es : List (D × D)) (k : D) : Option D := (es.find? fun p => sameK p.1 k).map (·.2)
def esHas (es : List (D × D)) (k : D) : Bool := es.any fun p => sameK p.1 k
def esPut (es : List (D × D)) (k v : D) : List (D × D) := if esHas es k then es.map (fun p => if sameK p.1 k then (p.1, v) else p) else es ++ [(k, v)]
theorem esHas_get (es : List (D × D)) (k : D) : esHas es k = (esGet es k).isSome := by
  unfold esHas esGet
  induction es with
  | nil => rfl
  | cons p r ih =>
    cases e : sameK p.1 k with
    | true => simp [List.any_cons, List.find?_cons, e]
    | false =>
      rw [List.any_cons, List.find?_cons, e]
      exact ih
/-- both nothing, or both the same -/
inductive RpO (K : PySem.W.Frag) (Z : Hp) : Option V → Option D → Prop
  | no : RpO K Z none none
  | so {v : V} {d : D} : Rp K Z v d → RpO K Z (some v) (some d)
theorem RpO.isSome {K : PySem.W.Frag} {Z : Hp} {o : Option V} {u : Option D} (h : RpO K Z o u) : o.isSome = u.isSome := by cases h <;> rfl
theorem RpO.some {K : PySem.W.Frag} {Z : Hp} {o : Option V} {d : D} (h : RpO K Z o (some d)) : ∃ v, o = some v ∧ Rp K Z v d := by
  cases h with
  | so h => exact ⟨_, rfl, h⟩
theorem RpO.getD {K : PySem.W.Frag} {Z : Hp} {o : Option V} {u : Option D} {x : V} {d : D} (h : RpO K Z o u) (r : Rp K Z x d) : Rp K Z (o.getD x) (u.getD d) := by
  cases h with
  | no => exact r
  | so h => exact h
section
variable {K : PySem.W.Frag} {Z : Hp} {κ : Type} [DecidableEq κ] {enc : κ → D}
theorem tab_get (hE : ∀ a b, sameK (enc a) (enc b) = decide (a = b)) (k : κ) : ∀ {ks : List κ} {vs : List V} {ds : List D}, ks.length = ds.length → RpA K Z vs ds → RpO K Z (valV (ks.zip vs) k) (esGet ((ks.map enc).zip ds) (enc k))
  | [], _, _, _, _ => by simp [valV, esGet]; exact .no
  | _ :: _, _, [], h, _ => by simp at h
  | k' :: ks, _, d :: ds, h, .cons (v := v) (vs := vs) r rs => by
    have ih := tab_get hE k (ks := ks) (ds := ds) (by simpa using h) rs
    rw [List.zip_cons_cons, List.map_cons, List.zip_cons_cons]
    by_cases e : k' = k
    · rw [valV_pos e]
      unfold esGet
      rw [List.find?_cons_of_pos (by simp [hE, e])]
      exact .so r
    · rw [valV_neg e]
      unfold esGet at ih ⊢
      rw [List.find?_cons_of_neg (by simp [hE, e])]
      exact ih
theorem tab_repl (hE : ∀ a b, sameK (enc a) (enc b) = decide (a = b)) (k : κ) {v : V} {d : D} (r : Rp K Z v d) : ∀ {ks : List κ} {vs : List V} {ds : List D}, ks.length = ds.length → RpA K Z vs ds →
    ∃ vs' ds', ((ks.zip vs).map fun kv => if kv.1 = k then (kv.1, v) else kv) = ks.zip vs' ∧ ks.length = ds'.length ∧ RpA K Z vs' ds' ∧ (((ks.map enc).zip ds).map fun p => if sameK p.1 (enc k) then (p.1, d) else p) = (ks.map enc).zip ds'
  | [], _, _, h, q => ⟨[], [], by simp, by simp, .nil, by simp⟩
  | _ :: _, _, [], h, _ => by simp at h
  | k' :: ks, _, d0 :: ds, h, .cons (v := v0) (vs := vs) r0 rs => by
    obtain ⟨vs', ds', e1, e2, e3, e4⟩ := tab_repl hE k r (ks := ks) (ds := ds) (by simpa using h) rs
    by_cases e : k' = k
    · refine ⟨v :: vs', d :: ds', ?_, by simp [e2], .cons r e3, ?_⟩
      · rw [List.zip_cons_cons, List.map_cons, e1, List.zip_cons_cons]
        simp [e]
      · rw [List.map_cons, List.zip_cons_cons, List.map_cons, e4, List.zip_cons_cons]
        simp [hE, e]
    · refine ⟨v0 :: vs', d0 :: ds', ?_, by simp [e2], .cons r0 e3, ?_⟩
      · rw [List.zip_cons_cons, List.map_cons, e1, List.zip_cons_cons]
        simp [e]
      · rw [List.map_cons, List.zip_cons_cons, List.map_cons, e4, List.zip_cons_cons]
        simp [hE, e]
theorem tab_put (hE : ∀ a b, sameK (enc a) (enc b) = decide (a = b)) (k : κ) {v : V} {d : D} (r : Rp K Z v d) {ks : List κ} {vs : List V} {ds : List D} (hl : ks.length = ds.length) (rs : RpA K Z vs ds) :
    ∃ (ks' : List κ) (vs' : List V) (ds' : List D), putK (ks.zip vs) k v = ks'.zip vs' ∧ ks'.length = ds'.length ∧ RpA K Z vs' ds' ∧ esPut ((ks.map enc).zip ds) (enc k) d = (ks'.map enc).zip ds' := by
  have g := tab_get hE k hl rs
  unfold putK esPut
  rw [esHas_get, ← g.isSome, valV_any]
  by_cases e : (valV (ks.zip vs) k).isSome = true
  · obtain ⟨vs', ds', e1, e2, e3, e4⟩ := tab_repl hE k r hl rs
    rw [if_pos e, if_pos e]
    exact ⟨ks, vs', ds', e1, e2, e3, e4⟩
  · rw [if_neg e, if_neg e]
    have lv := rs.length
    refine ⟨ks ++ [k], vs ++ [v], ds ++ [d], ?_, by simp [hl], rs.append (.cons r .nil), ?_⟩
    · rw [List.zip_append (by omega)]
      rfl
    · rw [List.map_append, List.zip_append (by simp [hl])]
      rfl
end
section
variable {K : PySem.W.Frag}
theorem DicAt.len {Z : Hp} {o : Option HO} : ∀ {t : Bool} {es : List (D × D)}, DicAt K Z o t es → (∃ kvs : List (Key × V), o = some (.dK kvs) ∧ kvs.length = es.length) ∨ ∃ kvs : List (List Key × V), o = some (.dT kvs) ∧ kvs.length = es.length
  | false, _, ⟨ks, vs, ds, h1, h2, h3, h4⟩ => .inl ⟨_, h1, by subst h4; simp [h3.length]⟩
  | true, _, ⟨ks, vs, ds, h1, h2, h3, h4⟩ => .inr ⟨_, h1, by subst h4; simp [h3.length]⟩
theorem DicAt.get {Z H : Hp} {a : Addr} {u : HO} {y : V} {k : D} (sm : Same Z H) (hr : Rd H a u) : ∀ {t : Bool} {es : List (D × D)}, DicAt K Z (some u) t es → isKey t k = true → Rp K Z y k → ∃ o, DGet H a y o ∧ RpO K Z o (esGet es k)
  | false, _, ⟨ks, vs, ds, h1, h2, h3, h4⟩, hk, r => by
    obtain ⟨k', rfl⟩ := isK1_get hk
    cases h1
    subst h4
    exact ⟨_, .inl ⟨_, k', hr, r.keyV, rfl⟩, tab_get sameK_kD k' h2 h3⟩
  | true, _, ⟨ks, vs, ds, h1, h2, h3, h4⟩, hk, r => by
    obtain ⟨k', rfl⟩ := isKey_t hk
    cases h1
    subst h4
    obtain ⟨b, rfl, hb⟩ := r.keyT
    exact ⟨_, .inr ⟨_, k', b, hr, rfl, sm _ _ hb, rfl⟩, tab_get sameK_kTD k' h2 h3⟩
theorem DicAt.put {Z H : Hp} {a : Addr} {y v : V} {k d : D} (sm : Same Z H) : ∀ {t : Bool} {es : List (D × D)}, DicAt K Z (H a) t es → isKey t k = true → Rp K Z y k → Rp K Z v d → es.length < sizeLine →
    ∃ u, DPut H a y v (upd H a u) ∧ DicAt K Z (some u) t (esPut es k d)
  | false, _, ⟨ks, vs, ds, h1, h2, h3, h4⟩, hk, r, rv, hl => by
    obtain ⟨k', rfl⟩ := isK1_get hk
    subst h4
    obtain ⟨ks', vs', ds', e1, e2, e3, e4⟩ := tab_put sameK_kD k' rv h2 h3
    refine ⟨_, .inl ⟨_, k', h1, r.keyV, ?_, rfl⟩, ks', vs', ds', by rw [e1], e2, e3, e4⟩
    simp [h3.length] at hl ⊢
    omega
  | true, _, ⟨ks, vs, ds, h1, h2, h3, h4⟩, hk, r, rv, hl => by
    obtain ⟨k', rfl⟩ := isKey_t hk
    subst h4
    obtain ⟨b, rfl, hb⟩ := r.keyT
    obtain ⟨ks', vs', ds', e1, e2, e3, e4⟩ := tab_put sameK_kTD k' rv h2 h3
    refine ⟨_, .inr ⟨_, k', b, h1, rfl, sm _ _ hb, ?_, rfl⟩, ks', vs', ds', by rw [e1], e2, e3, e4⟩
    simp [h3.length] at hl ⊢
    omega
/-- data that is a dict -/
def dicOf : D → Option (Bool × List (D × D))
  | .dict ((.list [.none], .none) :: es) => some (true, es)
  | .dict ((.list [], _) :: _) => none
  | .dict es => some (false, es)
  | _ => none
theorem dicOf_false {ks : List Key} {ds : List D} : dicOf (.dict ((ks.map kD).zip ds)) = some (false, (ks.map kD).zip ds) := by
  cases ks with
  | nil => rfl
  | cons k ks =>
    cases ds with
    | nil => rfl
    | cons d ds => cases k <;> rfl
theorem dicOf_dictD {Z : Hp} {o : Option HO} : ∀ {t : Bool} {es : List (D × D)}, DicAt K Z o t es → dicOf (dictD t es) = some (t, es)
  | true, _, _ => rfl
  | false, _, ⟨ks, vs, ds, h1, h2, h3, h4⟩ => by subst h4; exact dicOf_false
theorem Lo.dicI {c : Cfg} {x : V} {d : D} {t : Bool} {es : List (D × D)} (sm : Same c.Z c.H) (h : Lo K c x d) (e : dicOf d = some (t, es)) : ∃ a u, x = .ref a ∧ Rd c.H a u ∧ DicAt K c.Z (some u) t es := by
  cases h with
  | z h =>
    cases h with
    | dk h1 h2 h3 =>
      rw [dicOf_false] at e
      cases e
      exact ⟨_, _, rfl, .inr ⟨_, sm _ _ h1⟩, _, _, _, rfl, h2, h3, rfl⟩
    | dt h1 h2 h3 =>
      cases e
      exact ⟨_, _, rfl, .inr ⟨_, sm _ _ h1⟩, _, _, _, rfl, h2, h3, rfl⟩
    | _ => cases e
  | o h1 h2 => cases e
  | d h1 =>
    rw [dicOf_dictD h1] at e
    cases e
    obtain ⟨u, e1, _⟩ := h1.obj
    exact ⟨_, u, rfl, .inl e1, by rw [← e1]; exact h1⟩
end
end FW

/-! FwF: operations. -/
namespace FW
open PySem PySem.Spec L2
open PyProof.Rows hiding St
section
variable {X : Cx} {W : WX} {pos : Pos}

/-! ### numbers -/
def intOp (g : Int → Int → Option Int) : D → D → Option D
  | .int i, .int j => (g i j).map PyData.int
  | _, _ => none
theorem intOp_some {g : Int → Int → Option Int} {a b d : D} (h : intOp g a b = some d) : ∃ i j k, a = .int i ∧ b = .int j ∧ g i j = some k ∧ d = .int k := by
  unfold intOp at h
  split at h
  · rename_i i j
    cases e : g i j with
    | none => rw [e] at h; cases h
    | some k =>
      rw [e] at h
      cases h
      exact ⟨i, j, k, rfl, rfl, e, rfl⟩
  · cases h
theorem opD_int {f : Value → Value → Sem Value} {C : Int → Int → Prop} {g : Int → Int → Int} {g' : Int → Int → Option Int} (h : OpR X f (rI C fun i j => .int (g i j))) (hg : ∀ i j k, g' i j = some k → C i j ∧ k = g i j) : OpD X W f (intOp g') := by
  refine ⟨_, h, fun x y a b d S σ c Q e hh ra rb q => ?_⟩
  obtain ⟨i, j, k, rfl, rfl, e2, rfl⟩ := intOp_some e
  cases ra.intI
  cases rb.intI
  obtain ⟨h1, rfl⟩ := hg i j k e2
  exact ⟨i, j, rfl, rfl, h1, q c _ (Stp.refl _) hh (.int _)⟩
theorem opD_int0 {f : Value → Value → Sem Value} {g : Int → Int → Int} {g' : Int → Int → Option Int} (h : OpR X f (rI0 fun i j => .int (g i j))) (hg : ∀ i j k, g' i j = some k → k = g i j) : OpD X W f (intOp g') := by
  refine ⟨_, h, fun x y a b d S σ c Q e hh ra rb q => ?_⟩
  obtain ⟨i, j, k, rfl, rfl, e2, rfl⟩ := intOp_some e
  cases ra.intI
  cases rb.intI
  cases hg i j k e2
  exact ⟨i, j, rfl, rfl, q c _ (Stp.refl _) hh (.int _)⟩
def subD : D → D → Option D := intOp fun i j => some (i - j)
theorem od_sub : OpD X W (binaryOp .Sub) subD := opD_int0 op_sub fun _ _ _ h => (Option.some.inj h).symm
def fdivD : D → D → Option D := intOp fun i j => if 0 < j ∧ j < 2 ^ 200 then some (i / j) else none
theorem od_fdiv : OpD X W (binaryOp .FloorDiv) fdivD := opD_int op_fdivW fun i j k h => by
  split at h
  · rename_i hj
    refine ⟨wide_div hj.1 (b := 200) ?_ (by decide) (by decide), (Option.some.inj h).symm⟩
    have h2 := hj.2
    have h1 := hj.1
    obtain ⟨n, rfl⟩ := Int.eq_ofNat_of_zero_le (Int.le_of_lt h1)
    show n < 2 ^ 200
    exact_mod_cast h2
  · cases h
def modD : D → D → Option D := intOp fun i j => if 0 < j then some (i % j) else none
theorem od_mod : OpD X W (binaryOp .Mod) modD := opD_int op_mod fun i j k h => by
  split at h
  · rename_i hj
    exact ⟨hj, (Option.some.inj h).symm⟩
  · cases h
def andD : D → D → Option D := intOp fun i j => some (Builtin.bitAnd i j)
theorem od_and : OpD X W (binaryOp .BitAnd) andD := opD_int0 op_and fun _ _ _ h => (Option.some.inj h).symm
def orD : D → D → Option D := intOp fun i j => some (Builtin.bitOr i j)
theorem od_or : OpD X W (binaryOp .BitOr) orD := opD_int0 op_or fun _ _ _ h => (Option.some.inj h).symm
def xorD : D → D → Option D := intOp fun i j => some (Builtin.bitXor i j)
theorem od_xor : OpD X W (binaryOp .BitXor) xorD := opD_int0 op_xor fun _ _ _ h => (Option.some.inj h).symm
def shlD : D → D → Option D := intOp fun i j => if 0 ≤ j ∧ j ≤ 1000000 ∧ i.natAbs < 2 ^ 64 then some (i * 2 ^ j.toNat) else none
theorem od_shl : OpD X W (binaryOp .LShift) shlD := opD_int op_shl fun i j k h => by
  split at h
  · rename_i hj
    exact ⟨hj, (Option.some.inj h).symm⟩
  · cases h
def shrD : D → D → Option D := intOp fun i j => if 0 ≤ j then some (i / 2 ^ j.toNat) else none
theorem od_shr : OpD X W (binaryOp .RShift) shrD := opD_int op_shr fun i j k h => by
  split at h
  · rename_i hj
    exact ⟨hj, (Option.some.inj h).symm⟩
  · cases h
/-- +: numbers, texts, tuples, lists -/
def addD : D → D → Option D
  | .int i, .int j => some (.int (i + j))
  | .str x, .str y => if x.length + y.length ≤ sizeLine then some (.str (x ++ y)) else none
  | .tuple xs, .tuple ys => if xs.length + ys.length ≤ sizeLine then some (.tuple (xs ++ ys)) else none
  | .list xs, .list ys => if xs.length + ys.length ≤ sizeLine then some (.list (xs ++ ys)) else none
  | _, _ => none
theorem Rp.tupI {K : PySem.W.Frag} {Z : Hp} {x : V} {ds : List D} (h : Rp K Z x (.tuple ds)) : ∃ a xs, x = .ref a ∧ SqT K Z a xs ∧ RpA K Z xs ds := by
  cases h with
  | tup h1 h2 => exact ⟨_, _, rfl, SqT.of h1, h2⟩
theorem Rp.tupS {K : PySem.W.Frag} {Z : Hp} {x : V} {ds : List D} (h : Rp K Z x (.tuple ds)) : ∃ a xs, x = .ref a ∧ Z a = some (.tup xs) ∧ RpA K Z xs ds := by
  cases h with
  | tup h1 h2 => exact ⟨_, _, rfl, h1, h2⟩
theorem Rp.lstI {K : PySem.W.Frag} {Z : Hp} {x : V} {ds : List D} (h : Rp K Z x (.list ds)) : ∃ a xs, x = .ref a ∧ Z a = some (.lst xs) ∧ RpA K Z xs ds := by
  cases h with
  | lst h1 h2 => exact ⟨_, _, rfl, h1, h2⟩
theorem RpA.nil_iff {K : PySem.W.Frag} {Z : Hp} {vs : List V} {ds : List D} (h : RpA K Z vs ds) : vs = [] ↔ ds = [] := by
  have := h.length
  constructor
  · rintro rfl
    exact List.eq_nil_of_length_eq_zero this.symm
  · rintro rfl
    exact List.eq_nil_of_length_eq_zero this
theorem od_add : OpD X W (binaryOp .Add) addD := by
  refine ⟨_, (op_add.or op_add_str).or (op_catA.or op_cat), fun x y a b d S σ c Q e hh ra rb q => ?_⟩
  unfold addD at e
  split at e
  · cases e
    cases ra.intI
    cases rb.intI
    exact .inl (.inl ⟨_, _, rfl, rfl, q c _ (Stp.refl _) hh (.int _)⟩)
  · split at e
    · rename_i hl
      cases e
      cases ra.strI
      cases rb.strI
      exact .inl (.inr ⟨_, _, rfl, rfl, hl, q c _ (Stp.refl _) hh (.str _)⟩)
    · cases e
  · split at e
    · rename_i hl
      cases e
      have ra' := ra.tupZ
      have rb' := rb.tupZ
      obtain ⟨p, xs, rfl, s1, r1⟩ := ra.tupI
      obtain ⟨p2, ys, rfl, s2, r2⟩ := rb.tupI
      refine .inr (.inl ⟨p, p2, xs, ys, rfl, rfl, sameT hh.zh s1, sameT hh.zh s2, by rw [r1.length, r2.length]; exact hl, fun e0 => ?_, fun e0 e1 => ?_, fun e0 e1 pn hp => ?_⟩)
      · have := (r1.nil_iff).mp e0
        subst this
        exact q c _ (Stp.refl _) hh rb'
      · have := (r2.nil_iff).mp e1
        subst this
        rw [List.append_nil] at q
        exact q c _ (Stp.refl _) hh ra'
      · obtain ⟨st, h2, r⟩ := hh.layT hp (r1.append r2)
        exact q _ _ st h2 r
    · cases e
  · split at e
    · rename_i hl
      cases e
      obtain ⟨p, xs, rfl, s1, r1⟩ := ra.lstI hh.zh
      obtain ⟨p2, ys, rfl, s2, r2⟩ := rb.lstI hh.zh
      refine .inr (.inr ⟨p, p2, xs, ys, rfl, rfl, s1, s2, by rw [r1.length, r2.length]; exact hl, fun pn hp => ?_⟩)
      obtain ⟨st, h2, r⟩ := hh.layL hp (r1.append r2)
      exact q _ _ st h2 r
    · cases e
  · cases e

/-! ### comparisons -/
def shal : Nat → D → Bool
  | 0, d => match d with
    | .list _ => false
    | .tuple _ => false
    | .dict _ => false
    | _ => true
  | n + 1, d => match d with
    | .list xs => xs.all (shal n)
    | .tuple xs => xs.all (shal n)
    | .dict _ => false
    | _ => true
theorem shalAll_depth {n : Nat} (ih : ∀ d, shal n d = true → PyData.depth d ≤ n) : ∀ xs : List D, xs.all (shal n) = true → PyData.depthAll xs ≤ n
  | [], _ => by simp [PyData.depthAll]
  | x :: xs, h => by
    rw [List.all_cons, Bool.and_eq_true] at h
    have h1 := ih x h.1
    have h2 := shalAll_depth ih xs h.2
    simp only [PyData.depthAll]
    omega
theorem shal_depth : ∀ (n : Nat) (d : D), shal n d = true → PyData.depth d ≤ n
  | 0, d, h => by cases d <;> first | exact Bool.noConfusion h | exact Nat.le_refl 0
  | n + 1, d, h => by
    cases d with
    | list xs =>
      have := shalAll_depth (shal_depth n) xs (by simpa [shal] using h)
      simp only [PyData.depth]
      omega
    | tuple xs =>
      have := shalAll_depth (shal_depth n) xs (by simpa [shal] using h)
      simp only [PyData.depth]
      omega
    | dict _ => simp [shal] at h
    | _ => simp [PyData.depth]
mutual
theorem noDict_plain : ∀ d : D, noDict d = true → d.plain = true
  | .none, _ => rfl
  | .bool _, _ => rfl
  | .int _, _ => rfl
  | .str _, _ => rfl
  | .list ds, h => noDictA_plain ds h
  | .tuple ds, h => noDictA_plain ds h
  | .dict _, h => by simp [noDict] at h
theorem noDictA_plain : ∀ ds : List D, noDictA ds = true → PyData.plainAll ds = true
  | [], _ => rfl
  | d :: ds, h => by
    simp only [noDictA, Bool.and_eq_true] at h
    simp [PyData.plainAll, noDict_plain d h.1, noDictA_plain ds h.2]
end
def rEqP (K : PySem.W.Frag) (u : Nat) (ng : Bool) : R2 := fun x y H Q => ∃ d e, Dp K H x d ∧ Dp K H y e ∧ d.plain = true ∧ e.plain = true ∧ u + min d.depth e.depth < cLine ∧ Q (.bl (if ng then !PyData.eqv d e else PyData.eqv d e)) H
theorem op_eqP : OpR X (compareOp .Eq) (rEqP X.K X.A.units false) := by
  intro pins s σ H x y v u Q I rx ry h
  obtain ⟨d, e, hd, he, pd, pe, hu, q⟩ := h
  obtain ⟨as, r1⟩ := Dp.reads I d x v hd rx
  obtain ⟨bs, r2⟩ := Dp.reads I e y u he ry
  exact SeqAt.eq_plain r1 r2 pd pe hu ⟨.bl _, H, I, rfl, q⟩
theorem op_neP : OpR X (compareOp .NotEq) (rEqP X.K X.A.units true) := by
  intro pins s σ H x y v u Q I rx ry h
  obtain ⟨d, e, hd, he, pd, pe, hu, q⟩ := h
  obtain ⟨as, r1⟩ := Dp.reads I d x v hd rx
  obtain ⟨bs, r2⟩ := Dp.reads I e y u he ry
  exact SeqAt.ne_plain r1 r2 pd pe hu ⟨.bl _, H, I, rfl, q⟩
def shal2 (a b : D) : Bool := shal 8 a || shal 8 b
theorem shal2_ok {a b : D} {u : Nat} (h : shal2 a b = true) (hu : u + 64 < cLine) : u + min a.depth b.depth < cLine := by
  unfold shal2 at h
  rw [Bool.or_eq_true] at h
  rcases h with h | h
  · have := shal_depth 8 a h
    omega
  · have := shal_depth 8 b h
    omega
/-- the two can be compared -/
def cmpOk (a b : D) : Bool := noDict a && noDict b && shal2 a b
def eqD (a b : D) : Option D := if cmpOk a b then some (.bool (PyData.eqv a b)) else none
def neD (a b : D) : Option D := if cmpOk a b then some (.bool (!PyData.eqv a b)) else none
theorem cmpOk_get {a b : D} (h : cmpOk a b = true) : noDict a = true ∧ noDict b = true ∧ shal2 a b = true := by
  unfold cmpOk at h
  rw [Bool.and_eq_true, Bool.and_eq_true] at h
  exact ⟨h.1.1, h.1.2, h.2⟩
theorem od_eq (hu : X.A.units + 64 < cLine) : OpD X W (compareOp .Eq) eqD := by
  refine ⟨_, op_eqP, fun x y a b d S σ c Q e hh ra rb q => ?_⟩
  unfold eqD at e
  split at e
  · rename_i hs
    obtain ⟨n1, n2, hs⟩ := cmpOk_get hs
    cases e
    exact ⟨a, b, ra.dp hh.zh n1, rb.dp hh.zh n2, noDict_plain a n1, noDict_plain b n2, shal2_ok hs hu, q c _ (Stp.refl _) hh (.bl _)⟩
  · cases e
theorem od_ne (hu : X.A.units + 64 < cLine) : OpD X W (compareOp .NotEq) neD := by
  refine ⟨_, op_neP, fun x y a b d S σ c Q e hh ra rb q => ?_⟩
  unfold neD at e
  split at e
  · rename_i hs
    obtain ⟨n1, n2, hs⟩ := cmpOk_get hs
    cases e
    exact ⟨a, b, ra.dp hh.zh n1, rb.dp hh.zh n2, noDict_plain a n1, noDict_plain b n2, shal2_ok hs hu, q c _ (Stp.refl _) hh (.bl _)⟩
  · cases e
def cmpI (g : Int → Int → Bool) : D → D → Option D
  | .int i, .int j => some (.bool (g i j))
  | _, _ => none
theorem od_cmpI {f : Value → Value → Sem Value} {g : Int → Int → Bool} (h : OpR X f (rI0 fun i j => .bl (g i j))) : OpD X W f (cmpI g) := by
  refine ⟨_, h, fun x y a b d S σ c Q e hh ra rb q => ?_⟩
  unfold cmpI at e
  split at e
  · cases e
    cases ra.intI
    cases rb.intI
    exact ⟨_, _, rfl, rfl, q c _ (Stp.refl _) hh (.bl _)⟩
  · cases e
def ltD : D → D → Option D := cmpI fun i j => decide (i < j)
def leD : D → D → Option D := cmpI fun i j => decide (i ≤ j)
def gtD : D → D → Option D := cmpI fun i j => decide (j < i)
def geD : D → D → Option D := cmpI fun i j => decide (j ≤ i)
theorem od_lt : OpD X W (compareOp .Lt) ltD := od_cmpI op_lt
theorem od_le : OpD X W (compareOp .LtE) leD := od_cmpI op_le
theorem od_gt : OpD X W (compareOp .Gt) gtD := od_cmpI op_gt
theorem od_ge : OpD X W (compareOp .GtE) geD := od_cmpI op_ge
/-- is, is not: None and truth values -/
def isD (a b : D) : Option D := match b with
  | .none => some (.bool (isNoneD a))
  | .bool y => match a with
    | .bool x => some (.bool (decide (x = y)))
    | _ => none
  | _ => none
def isntD (a b : D) : Option D := match b with
  | .none => some (.bool (!isNoneD a))
  | .bool y => match a with
    | .bool x => some (.bool (!decide (x = y)))
    | _ => none
  | _ => none
theorem od_is : OpD X W (compareOp .Is) isD := by
  refine ⟨_, op_isN.or op_isBl, fun x y a b d S σ c Q e hh ra rb q => ?_⟩
  unfold isD at e
  split at e
  · cases e
    cases rb.noneI
    refine .inl ⟨rfl, ?_⟩
    rw [ra.isNone]
    exact q c _ (Stp.refl _) hh (.bl _)
  · split at e
    · cases e
      cases ra.boolI
      cases rb.boolI
      exact .inr ⟨_, _, rfl, rfl, q c _ (Stp.refl _) hh (.bl _)⟩
    · cases e
  · cases e
theorem od_isnt : OpD X W (compareOp .IsNot) isntD := by
  refine ⟨_, op_notN.or op_notBl, fun x y a b d S σ c Q e hh ra rb q => ?_⟩
  unfold isntD at e
  split at e
  · cases e
    cases rb.noneI
    refine .inl ⟨rfl, ?_⟩
    rw [ra.isNone]
    exact q c _ (Stp.refl _) hh (.bl _)
  · split at e
    · cases e
      cases ra.boolI
      cases rb.boolI
      exact .inr ⟨_, _, rfl, rfl, q c _ (Stp.refl _) hh (.bl _)⟩
    · cases e
  · cases e
/-- in, not in: lists and tuples of data -/
def rInP (K : PySem.W.Frag) (u : Nat) (ng : Bool) : R2 := fun x y H Q => ∃ d ds, Dp K H x d ∧ (Dp K H y (.list ds) ∨ Dp K H y (.tuple ds)) ∧ d.plain = true ∧ PyData.plainAll ds = true ∧ u + 1 + min (PyData.depthAll ds) d.depth < cLine ∧
  Q (.bl (if ng then !ds.any fun z => PyData.eqv z d else ds.any fun z => PyData.eqv z d)) H
theorem op_inP : OpR X (compareOp .In) (rInP X.K X.A.units false) := by
  intro pins s σ H x y v u Q I rx ry h
  obtain ⟨d, ds, hd, he, pd, pe, hu, q⟩ := h
  obtain ⟨as, r1⟩ := Dp.reads I d x v hd rx
  rcases he with he | he
  · obtain ⟨bs, r2⟩ := Dp.reads I _ y u he ry
    exact SeqAt.in_list_data r2 r1 pe pd hu ⟨.bl _, H, I, rfl, q⟩
  · obtain ⟨bs, r2⟩ := Dp.reads I _ y u he ry
    exact SeqAt.in_tuple_data r2 r1 pe pd hu ⟨.bl _, H, I, rfl, q⟩
theorem op_notInP : OpR X (compareOp .NotIn) (rInP X.K X.A.units true) := by
  intro pins s σ H x y v u Q I rx ry h
  obtain ⟨d, ds, hd, he, pd, pe, hu, q⟩ := h
  obtain ⟨as, r1⟩ := Dp.reads I d x v hd rx
  rcases he with he | he
  · obtain ⟨bs, r2⟩ := Dp.reads I _ y u he ry
    exact SeqAt.notIn_list_data r2 r1 pe pd hu ⟨.bl _, H, I, rfl, q⟩
  · obtain ⟨bs, r2⟩ := Dp.reads I _ y u he ry
    exact SeqAt.notIn_tuple_data r2 r1 pe pd hu ⟨.bl _, H, I, rfl, q⟩
def itemsD : D → Option (List D)
  | .list ds => some ds
  | .tuple ds => some ds
  | _ => none
def inOk (ds : List D) (a : D) : Bool := noDict a && noDictA ds && shal 8 a
def inDic (d a : D) : Option Bool := (dicOf d).bind fun te => if isKey te.1 a then some (esHas te.2 a) else none
def inD (a b : D) : Option D := match b with
  | .dict es => (inDic (.dict es) a).map PyData.bool
  | b => (itemsD b).bind fun ds => if inOk ds a then some (.bool (ds.any fun z => PyData.eqv z a)) else none
def ninD (a b : D) : Option D := match b with
  | .dict es => (inDic (.dict es) a).map fun k => PyData.bool (!k)
  | b => (itemsD b).bind fun ds => if inOk ds a then some (.bool (!ds.any fun z => PyData.eqv z a)) else none
def rInDic (ng : Bool) : R2 := fun x y H Q => ∃ a o, y = .ref a ∧ DGet H a x o ∧ Q (.bl (if ng then !o.isSome else o.isSome)) H
theorem op_inDic (hu : X.A.units + 1 < cLine) : OpR X (compareOp .In) (rInDic false) := by
  intro pins s σ H x y v u Q I rx ry h
  obtain ⟨a, o, rfl, g, q⟩ := h
  cases (show u = Value.ref a from ry)
  exact d_in hu I g rx fun s' I' => ⟨.bl _, H, I', rfl, q⟩
theorem op_notInDic (hu : X.A.units + 1 < cLine) : OpR X (compareOp .NotIn) (rInDic true) := by
  intro pins s σ H x y v u Q I rx ry h
  obtain ⟨a, o, rfl, g, q⟩ := h
  cases (show u = Value.ref a from ry)
  exact d_notIn hu I g rx fun s' I' => ⟨.bl _, H, I', rfl, q⟩
theorem inDic_get {c : Cfg} {x y : V} {d a : D} {k : Bool} (sm : Same c.Z c.H) (e : inDic d a = some k) (ra : Rp X.K c.Z x a) (rb : Lo X.K c y d) : ∃ p o, y = .ref p ∧ DGet c.H p x o ∧ o.isSome = k := by
  obtain ⟨⟨t, es⟩, e1, e2⟩ := Option.bind_eq_some_iff.mp e
  dsimp only at e2
  split at e2
  · rename_i hk
    cases e2
    obtain ⟨p, u, rfl, hr, da⟩ := rb.dicI sm e1
    obtain ⟨o, g, ro⟩ := da.get sm hr hk ra
    exact ⟨p, o, rfl, g, by rw [ro.isSome, esHas_get]⟩
  · cases e2
theorem isKey_lo {c : Cfg} {x : V} {t : Bool} {d : D} (h : isKey t d = true) (r : Lo X.K c x d) : Rp X.K c.Z x d := by
  cases r with
  | z r => exact r
  | o h1 h2 => cases t <;> cases h
  | d h1 => cases t <;> cases h
theorem inDic_lo {c : Cfg} {x : V} {d a : D} {k : Bool} (e : inDic d a = some k) (r : Lo X.K c x a) : Rp X.K c.Z x a := by
  obtain ⟨⟨t, es⟩, e1, e2⟩ := Option.bind_eq_some_iff.mp e
  dsimp only at e2
  split at e2
  · rename_i hk
    exact isKey_lo hk r
  · cases e2
theorem Lo.items {K : PySem.W.Frag} {c : Cfg} {v : V} {b : D} {ds : List D} (sm : Same c.Z c.H) (h : Lo K c v b) (e : itemsD b = some ds) (n : noDictA ds = true) : Dp K c.H v (.list ds) ∨ Dp K c.H v (.tuple ds) := by
  cases b with
  | list es =>
    cases e
    exact .inl (h.dp sm n)
  | tuple es =>
    cases e
    exact .inr (h.dp sm n)
  | _ => cases e
theorem shal_in {ds : List D} {a : D} {u : Nat} (h : shal 8 a = true) (hu : u + 64 < cLine) : u + 1 + min (PyData.depthAll ds) a.depth < cLine := by
  have := shal_depth 8 a h
  omega
theorem inOk_get {ds : List D} {a : D} (h : inOk ds a = true) : noDict a = true ∧ noDictA ds = true ∧ shal 8 a = true := by
  unfold inOk at h
  rw [Bool.and_eq_true, Bool.and_eq_true] at h
  exact ⟨h.1.1, h.1.2, h.2⟩
theorem od_in (hu : X.A.units + 64 < cLine) : OpD X W (compareOp .In) inD := by
  refine ⟨_, (op_inDic (by omega)).or op_inP, fun x y a b d S σ c Q e hh ra rb q => ?_⟩
  unfold inD at e
  split at e
  · obtain ⟨k, e1, e2⟩ := Option.map_eq_some_iff.mp e
    cases e2
    obtain ⟨p, o, rfl, g, rfl⟩ := inDic_get hh.zh e1 (inDic_lo e1 ra) rb
    exact .inl ⟨p, o, rfl, g, q c _ (Stp.refl _) hh (.bl _)⟩
  refine .inr ?_
  obtain ⟨ds, e1, e2⟩ := Option.bind_eq_some_iff.mp e
  split at e2
  · rename_i hs
    obtain ⟨n1, n2, hs⟩ := inOk_get hs
    cases e2
    exact ⟨a, ds, ra.dp hh.zh n1, rb.items hh.zh e1 n2, noDict_plain a n1, noDictA_plain ds n2, shal_in hs hu, q c _ (Stp.refl _) hh (.bl _)⟩
  · cases e2
theorem od_nin (hu : X.A.units + 64 < cLine) : OpD X W (compareOp .NotIn) ninD := by
  refine ⟨_, (op_notInDic (by omega)).or op_notInP, fun x y a b d S σ c Q e hh ra rb q => ?_⟩
  unfold ninD at e
  split at e
  · obtain ⟨k, e1, e2⟩ := Option.map_eq_some_iff.mp e
    cases e2
    obtain ⟨p, o, rfl, g, rfl⟩ := inDic_get hh.zh e1 (inDic_lo e1 ra) rb
    exact .inl ⟨p, o, rfl, g, q c _ (Stp.refl _) hh (.bl _)⟩
  refine .inr ?_
  obtain ⟨ds, e1, e2⟩ := Option.bind_eq_some_iff.mp e
  split at e2
  · rename_i hs
    obtain ⟨n1, n2, hs⟩ := inOk_get hs
    cases e2
    exact ⟨a, ds, ra.dp hh.zh n1, rb.items hh.zh e1 n2, noDict_plain a n1, noDictA_plain ds n2, shal_in hs hu, q c _ (Stp.refl _) hh (.bl _)⟩
  · cases e2
end
end FW

/-! FwG: unary operators, chains, products, subscripts, slices, calls of built-ins, methods of lists. -/
namespace FW
open PySem PySem.Spec L2
open PyProof.Rows hiding St
section
variable {X : Cx} {W : WX} {pos : Pos}
def UnD (X : Cx) (W : WX) (f : Value → Sem Value) (g : D → Option D) : Prop := ∃ r : V → Hp → VK → Prop, UnR X f r ∧
  ∀ (x : V) (a d : D) (S : List Slot) (σ : Sg) (c : Cfg) (Q : VK), g a = some d → Holds X.K S σ c → Rp X.K c.Z x a → (∀ c' v, Stp c c' → Holds X.K S σ c' → Rp X.K c'.Z v d → Q v c'.H) → r x c.H Q
theorem de_un {op : UnaryOp} {g : D → Option D} {e : Expr} {f : EM D} (ho : UnD X W (unaryOp op) g) (he : DE X W e f) : DE X W (.UnaryOp op e pos) (eUn g f) := by
  obtain ⟨r, ho, hr⟩ := ho
  refine PE.wk (pe_un ho he) fun σ H Q q => ?_
  obtain ⟨S, Z, F, h, q⟩ := q
  refine ⟨S, Z, F, h, (Go.bind q).mono fun a S1 c1 s1 h1 q1 x rx => ?_⟩
  obtain ⟨d, e, k⟩ := Go.opt q1
  exact hr x a d S1 σ c1 Q e h1 rx fun c' v st hh rv => k c' st hh v rv
def negD : D → Option D
  | .int i => some (.int (-i))
  | _ => none
theorem ud_neg : UnD X W (unaryOp .USub) negD := by
  refine ⟨_, un_neg, fun x a d S σ c Q e hh ra q => ?_⟩
  unfold negD at e
  split at e
  · cases e
    cases ra
    exact ⟨_, rfl, q c _ (Stp.refl _) hh (.int _)⟩
  · cases e
/-- a < b < c -/
def eChain (g g' : D → D → Option D) (fa fb fc : EM D) : EM D := eBind fa fun a => eBind fb fun b => eBind (eOpt (g a b)) fun k => match k with
  | .bool true => eBind fc fun c => eOpt (g' b c)
  | .bool false => eRet (.bool false)
  | _ => fun _ => .bad
theorem chain_rd {r r' : R2} {g g' : D → D → Option D} {fa fb fc : EM D} (hr : ∀ (x y : V) (a b d : D) (S : List Slot) (σ : Sg) (c : Cfg) (Q : VK), g a b = some d → Holds X.K S σ c → Lo X.K c x a → Lo X.K c y b → (∀ c' v, Stp c c' → Holds X.K S σ c' → Rp X.K c'.Z v d → Q v c'.H) → r x y c.H Q)
    (hr' : ∀ (x y : V) (a b d : D) (S : List Slot) (σ : Sg) (c : Cfg) (Q : VK), g' a b = some d → Holds X.K S σ c → Lo X.K c x a → Lo X.K c y b → (∀ c' v, Stp c c' → Holds X.K S σ c' → Rp X.K c'.Z v d → Q v c'.H) → r' x y c.H Q) (σ : Sg) (H : Hp) (Q : VK)
    (q : tD (gx X W) (eChain g g' fa fb fc) σ H Q) : tChain r r' (tD (gx X W) fa) (tD (gx X W) fb) (tD (gx X W) fc) σ H Q := by
  obtain ⟨S, Z, F, h, q⟩ := q
  refine ⟨S, Z, F, h, (Go.bind q).mono fun a S1 c1 s1 h1 q1 x rx => ?_⟩
  refine ⟨S1, c1.Z, c1.F, h1, (Go.bind q1).mono fun b S2 c2 s2 h2 q2 y ry => ?_⟩
  obtain ⟨k, e, q3⟩ := Go.opt (Go.bind q2)
  refine hr x y a b k S2 σ c2 _ e h2 (.z (rx.mono s2.z)) (.z ry) fun c3 z s3 h3 rz => ?_
  have q4 := q3 c3 s3 h3
  cases k with
  | bool k =>
    cases rz
    refine ⟨k, rfl, ?_⟩
    cases k with
    | false => exact q4 _ (Stp.refl _) h3 _ (.bl _)
    | true =>
      refine iteT ?_
      refine ⟨S2, c3.Z, c3.F, h3, (Go.bind q4).mono fun cc S4 c4 s4 h4 q5 w rw' => ?_⟩
      obtain ⟨d, e, k⟩ := Go.opt q5
      exact hr' y w b cc d S4 σ c4 Q e h4 (.z ((ry.mono s3.z).mono s4.z)) (.z rw') fun c' v st hh rv => k c' st hh v rv
  | _ => exact q4.elim
theorem de_chain {op op' : CmpOp} {g g' : D → D → Option D} {a b c : Expr} {fa fb fc : EM D} (ho : OpD X W (compareOp op) g) (ho' : OpD X W (compareOp op') g') (ha : DE X W a fa) (hb : DE X W b fb) (hc : DE X W c fc) (hm : lastMarks [op, op'] [b, c] = false := by rfl) :
    DE X W (.Compare a [op, op'] [b, c] pos) (eChain g g' fa fb fc) := by
  obtain ⟨r, ho, hr⟩ := ho
  obtain ⟨r', ho', hr'⟩ := ho'
  exact PE.wk (pe_chain ho ho' ha hb hc (hm := hm)) (chain_rd hr hr')
theorem dt_chain {op op' : CmpOp} {g g' : D → D → Option D} {a b c : Expr} {fa fb fc : EM D} (ho : OpD X W (compareOp op) g) (ho' : OpD X W (compareOp op') g') (ha : DE X W a fa) (hb : DE X W b fb) (hc : DE X W c fc) (hm : lastMarks [op, op'] [b, c] = false := by rfl) :
    DT X W (.Compare a [op, op'] [b, c] pos) (bOf (eChain g g' fa fb fc)) := by
  obtain ⟨r, ho, hr⟩ := ho
  obtain ⟨r', ho', hr'⟩ := ho'
  exact PT.wk (pt_chain ho ho' ha hb hc (hm := hm)) fun σ H Q q => chain_rd hr hr' σ H _ (bof_rd σ H Q q)

/-! ### subscripts -/
def IxD (X : Cx) (W : WX) (g : D → D → Option D) : Prop := ∃ r : R2, IxR X r ∧
  ∀ (x y : V) (a b d : D) (S : List Slot) (σ : Sg) (c : Cfg) (Q : VK), g a b = some d → Holds X.K S σ c → Lo X.K c x a → Lo X.K c y b →
    (∀ c' v, Stp c c' → Holds X.K S σ c' → Rp X.K c'.Z v d → Q v c'.H) → r x y c.H Q
theorem de_ixG {g : D → D → Option D} {a b : Expr} {fa fb : EM D} (ho : IxD X W g) (ha : DE X W a fa) (hb : DE X W b fb) (hs : PlainIx b) : DE X W (.Subscript a b pos) (eBin g fa fb) := by
  obtain ⟨r, ho, hr⟩ := ho
  exact PE.wk (pe_ix ho ha (dl_e hb) hs) (bin_rd (ea := a) (eb := b) hr)
theorem subT_any {prog : Program} {w : World} {A : Around} {E : Value → Shared → Prop} {s : Shared} {value slice : Expr} {o i : Value} {T id : String} {Q : Value → Shared → Prop} (hT : s.TypeIs o T)
    (hl : typeLookup (.type T) "__getitem__" = pure (some (.builtin id))) (h : wpAny (model prog w) A (getItem o i) Q E s) (hs : subscripted slice false o i = operate [o, i] (getItem o i)) : wpAny (model prog w) A (subscriptTail value slice o i) Q E s := by
  unfold subscriptTail
  refine wpAny_bind ?_
  rw [getitemInPython_of_ne hT.not_modules]
  refine wpAny_bind (wpAny_specialOf hT hl ?_)
  have fin : wpAny (model prog w) A (subscripted slice false o i) (fun r s₃ => wpAny (model prog w) A (letTemporaryGo value o r >>= fun _ => pure r) Q E s₃) E s := by
    rw [hs]
    exact wpAny_operating (wpAny_mono h (fun r s₃ h₃ => wpAny_bind (wpAny_letTemporaryGo (wpAny_pure h₃))) fun _ _ x => x)
  first
    | exact wpAny_pure (wpAny_bind fin)
    | exact wpAny_bind (wpAny_pure (wpAny_bind fin))
    | exact wpAny_bind fin
def rIxDic : R2 := fun x y H Q => ∃ a v, x = .ref a ∧ DGet H a y (some v) ∧ Q v H
theorem ix_dic (hu : X.A.units + 1 < cLine) : IxR X rIxDic := by
  intro value slice pins s σ H x y v u Q I rx ry h hs
  obtain ⟨a, z, rfl, g, q⟩ := h
  cases (show v = Value.ref a from rx)
  exact subT_any (dict_typeIs I g) PySem.F.slot_dict_getitem.lookup (d_getItem hu I g ry fun w' s3 I3 rw' => ⟨z, H, I3, rw', q⟩) hs
def ixDic (d k : D) : Option D := (dicOf d).bind fun te => if isKey te.1 k then esGet te.2 k else none
def ixD : D → D → Option D
  | .dict es, k => ixDic (.dict es) k
  | .list ds, .int i => atI ds i
  | .tuple ds, .int i => atI ds i
  | .str z, .int i => if z.length ≤ sizeLine then (atI z.cps.toList i).map fun c => .str ⟨#[c]⟩ else none
  | _, _ => none
theorem RpA.atI {K : PySem.W.Frag} {Z : Hp} {vs : List V} {ds : List D} {i : Int} {d : D} (h : RpA K Z vs ds) (e : L2.atI ds i = some d) : ∃ v, L2.atI vs i = some v ∧ Rp K Z v d := by
  unfold L2.atI at e ⊢
  obtain ⟨j, e1, e2⟩ := Option.bind_eq_some_iff.mp e
  obtain ⟨v, e3, r⟩ := h.get e2
  refine ⟨v, ?_, r⟩
  rw [h.length, e1]
  exact e3
theorem ix_all (hu : X.A.units + 64 < cLine) : IxD X W ixD := by
  refine ⟨_, (ix_dic (by omega)).or ix_seq, fun x y a b d S σ c Q e hh ra rb q => ?_⟩
  unfold ixD at e
  split at e
  · obtain ⟨⟨t, es⟩, e1, e2⟩ := Option.bind_eq_some_iff.mp e
    dsimp only at e2
    split at e2
    · rename_i hk
      obtain ⟨p, u, rfl, hr, da⟩ := ra.dicI hh.zh e1
      obtain ⟨o, g, ro⟩ := da.get hh.zh hr hk (isKey_lo hk rb)
      rw [e2] at ro
      obtain ⟨v, rfl, rv⟩ := ro.some
      exact .inl ⟨p, v, rfl, g, q c v (Stp.refl _) hh rv⟩
    · cases e2
  all_goals first | refine .inr ?_ | skip
  all_goals first | skip | split at e
  · obtain ⟨p, xs, rfl, s1, r1⟩ := ra.lstI hh.zh
    cases rb.intI
    obtain ⟨v, e2, r⟩ := r1.atI e
    exact .inl ⟨p, xs, _, v, rfl, rfl, SqL.of s1, e2, q c v (Stp.refl _) hh r⟩
  · obtain ⟨p, xs, rfl, s1, r1⟩ := ra.tupI
    cases rb.intI
    obtain ⟨v, e2, r⟩ := r1.atI e
    exact .inr (.inl ⟨p, xs, _, v, rfl, rfl, sameT hh.zh s1, e2, q c v (Stp.refl _) hh r⟩)
  · split at e
    · rename_i hz
      cases ra.strI
      cases rb.intI
      obtain ⟨cc, e1, e2⟩ := Option.map_eq_some_iff.mp e
      subst e2
      exact .inr (.inr ⟨_, _, cc, rfl, rfl, hz, e1, q c _ (Stp.refl _) hh (.str _)⟩)
    · cases e
  · cases e
def eIx (fa fb : EM D) : EM D := eBin ixD fa fb
theorem de_ix {a b : Expr} {fa fb : EM D} (hu : X.A.units + 64 < cLine) (ha : DE X W a fa) (hb : DE X W b fb) (hs : PlainIx b := by intro _ _; rfl) : DE X W (.Subscript a b pos) (eIx fa fb) := de_ixG (ix_all hu) ha hb hs
/-- an item of a list that is held in a slot of its own -/
def eIxO (i : Nat) (fb : EM D) : EM D := eBinO ixD i fb
theorem de_ixO (hu : X.A.units + 64 < cLine) (i : Nat) {x : Str} {p : Pos} {b : Expr} {fb : EM D} (hb : DE X W b fb) (hN : X.N[i]? = some x := by rfl) (hv : Vis X.env.scope x := by first | exact Or.inl rfl | exact Or.inr (Or.inl rfl) | exact Or.inr (Or.inr rfl)) (hd : (x == ("__debug__" : Str)) = false := by decide)
    (hcd : (x == ("__classdict__" : Str)) = false := by decide) (hs : PlainIx b := by intro _ _; rfl) : DE X W (.Subscript (.Name x p) b pos) (eIxO i fb) := by
  obtain ⟨r, ho, hr⟩ := ix_all (X := X) (W := W) hu
  exact PE.wk (pe_ix ho (pe_var hN hv hd hcd) hb hs) (binO_rd hr)

/-! ### slices -/
def tO (G : Gx) (f : EM (Option Int)) : TO := fun σ H Q => ∃ S Z F, Holds G.K S σ ⟨Z, H, F⟩ ∧ Go G σ ⟨Z, H, F⟩ (f S) (fun o _ c' => Q o c'.H)
def DP (X : Cx) (W : WX) (e : Option Expr) (f : EM (Option Int)) : Prop := PO X e (tO (gx X W) f)
theorem PO.wk {e : Option Expr} {t t' : TO} (h : PO X e t) (i : ∀ σ H Q, t' σ H Q → t σ H Q) : PO X e t' := ⟨fun pins s σ H Q I q => h.run pins s σ H Q I (i _ _ _ q)⟩
def oNo : EM (Option Int) := eRet none
def asI : D → Option Int
  | .int i => some i
  | _ => none
def oSome (f : EM D) : EM (Option Int) := eBind f fun d => eBind (eOpt (asI d)) fun i => eRet (some i)
theorem dp_none : DP X W none oNo := PO.wk po_none fun σ H Q q => by
  obtain ⟨S, Z, F, h, q⟩ := q
  exact q _ (Stp.refl _) h
theorem dp_some {e : Expr} {f : EM D} (h : DE X W e f) : DP X W (some e) (oSome f) := PO.wk (po_some h) fun σ H Q q => by
  obtain ⟨S, Z, F, h, q⟩ := q
  refine ⟨S, Z, F, h, (Go.bind q).mono fun a S1 c1 s1 h1 q1 x rx => ?_⟩
  obtain ⟨i, e, k⟩ := Go.opt (Go.bind q1)
  cases a with
  | int j =>
    cases e
    cases rx
    exact ⟨i, rfl, k c1 (Stp.refl _) h1 c1 (Stp.refl _) h1⟩
  | _ => cases e
def cutD (ds : List D) (lo hi : Option Int) : List D := (ds.drop (HT.sIx ds.length 0 lo)).take (HT.sIx ds.length ds.length hi - HT.sIx ds.length 0 lo)
theorem RpA.cut {K : PySem.W.Frag} {Z : Hp} {vs : List V} {ds : List D} (h : RpA K Z vs ds) (lo hi : Option Int) : RpA K Z (cutV vs lo hi) (cutD ds lo hi) := by
  unfold cutV cutD
  rw [h.length]
  exact (h.drop _).take _
def slD (d : D) (lo hi : Option Int) : Option D := match d with
  | .list ds => some (.list (cutD ds lo hi))
  | .tuple ds => some (.tuple (cutD ds lo hi))
  | .str z => if z.length ≤ sizeLine then some (.str (cutS z lo hi)) else none
  | _ => none
def eSl (f : EM D) (lo hi : EM (Option Int)) : EM D := eBind f fun d => eBind lo fun l => eBind hi fun h => eOpt (slD d l h)
theorem cut_whole {ds : List D} {lo hi : Option Int} (h : HT.sIx ds.length 0 lo = 0 ∧ HT.sIx ds.length ds.length hi = ds.length) : cutD ds lo hi = ds := by
  unfold cutD
  rw [h.1, h.2]
  simp
theorem de_sl {e : Expr} {lo hi : Option Expr} {f : EM D} {l u : EM (Option Int)} {p2 : Pos} (he : DE X W e f) (hl : DP X W lo l) (hu : DP X W hi u) : DE X W (.Subscript e (.Slice lo hi none p2) pos) (eSl f l u) := by
  refine PE.wk (pe_slice ((sl_list.or sl_tupA).or sl_str) he hl hu) fun σ H Q q => ?_
  obtain ⟨S, Z, F, h, q⟩ := q
  refine ⟨S, Z, F, h, (Go.bind q).mono fun d S1 c1 s1 h1 q1 x rx => ?_⟩
  refine ⟨S1, c1.Z, c1.F, h1, (Go.bind q1).mono fun l2 S2 c2 s2 h2 q2 => ?_⟩
  refine ⟨S2, c2.Z, c2.F, h2, (Go.bind q2).mono fun u2 S3 c3 s3 h3 q3 => ?_⟩
  obtain ⟨dd, e, k⟩ := Go.opt q3
  have rx3 := (rx.mono s2.z).mono s3.z
  unfold slD at e
  split at e
  · cases e
    obtain ⟨p, xs, rfl, a1, r1⟩ := rx3.lstI
    refine .inl (.inl ⟨p, xs, rfl, SqL.of (h3.zh _ _ a1), fun pn hp => ?_⟩)
    obtain ⟨st, hh, r⟩ := h3.layL hp (r1.cut l2 u2)
    exact k _ st hh _ r
  · cases e
    obtain ⟨p, xs, rfl, a1, r1⟩ := rx3.tupI
    refine .inl (.inr ⟨p, xs, rfl, sameT h3.zh a1, fun hw => ?_, fun _ pn hp => ?_⟩)
    · rw [r1.length] at hw
      rw [cut_whole hw] at k
      exact k c3 (Stp.refl _) h3 _ rx3
    · obtain ⟨st, hh, r⟩ := h3.layT hp (r1.cut l2 u2)
      exact k _ st hh _ r
  · split at e
    · rename_i hz
      cases e
      cases rx3
      exact .inr ⟨_, rfl, hz, k c3 (Stp.refl _) h3 _ (.str _)⟩
    · cases e
  · cases e
/-- xs[::-1] of a list -/
def revD : D → Option D
  | .list ds => some (.list ds.reverse)
  | _ => none
theorem de_revL {e : Expr} {f : EM D} {k : Nat} {p1 p2 p3 : Pos} (he : DL X W e f) : DE X W (.Subscript e (.Slice none none (some (.UnaryOp .USub (.Constant (.int 1) k p1) p2)) p3) pos) (eUn revD f) := by
  refine PE.wk (pe_revL he) fun σ H Q q => ?_
  obtain ⟨S, Z, F, h, q⟩ := q
  refine ⟨S, Z, F, h, (Go.bind q).mono fun d S1 c1 s1 h1 q1 x rx => ?_⟩
  obtain ⟨dd, e, k⟩ := Go.opt q1
  unfold revD at e
  split at e
  · cases e
    obtain ⟨p, xs, rfl, a1, r1⟩ := rx.lstI h1.zh
    refine ⟨p, xs, rfl, SqL.of a1, fun pn hp => ?_⟩
    obtain ⟨st, hh, r⟩ := h1.layL hp r1.rev
    exact k _ st hh _ r
  · cases e

/-! ### calls of what is built in -/
inductive LoA (K : PySem.W.Frag) (c : Cfg) : List V → List D → Prop
  | nil : LoA K c [] []
  | cons {v : V} {vs : List V} {d : D} {ds : List D} : Lo K c v d → LoA K c vs ds → LoA K c (v :: vs) (d :: ds)
theorem LoA.of {K : PySem.W.Frag} {c : Cfg} : ∀ {ds : List D} {vs : List V}, RpA K c.Z vs ds → LoA K c vs ds
  | [], _, .nil => .nil
  | _ :: _, _, .cons h t => .cons (.z h) (LoA.of t)
theorem LoA.one {K : PySem.W.Frag} {c : Cfg} {vs : List V} {d : D} (h : LoA K c vs [d]) : ∃ v, vs = [v] ∧ Lo K c v d := by
  cases h with
  | cons h1 h2 =>
    cases h2
    exact ⟨_, rfl, h1⟩
theorem LoA.i1 {K : PySem.W.Frag} {c : Cfg} {vs : List V} {i : Int} (h : LoA K c vs [.int i]) : vs = [.int i] := by
  obtain ⟨v, rfl, r⟩ := h.one
  rw [r.intI]
theorem LoA.i2 {K : PySem.W.Frag} {c : Cfg} {vs : List V} {i j : Int} (h : LoA K c vs [.int i, .int j]) : vs = [.int i, .int j] := by
  cases h with
  | cons h1 h2 => rw [h1.intI, h2.i1]
def CallD (X : Cx) (W : WX) (f : Value) (g : List D → Option D) : Prop := ∃ r : List V → Hp → VK → Prop, CallR X f r ∧
  ∀ (vs : List V) (ds : List D) (d : D) (S : List Slot) (σ : Sg) (c : Cfg) (Q : VK), g ds = some d → Holds X.K S σ c → LoA X.K c vs ds → (∀ c' v, Stp c c' → Holds X.K S σ c' → Rp X.K c'.Z v d → Q v c'.H) → r vs c.H Q
def CallF (X : Cx) (W : WX) (f : Value) (g : List D → Option (List D)) : Prop := ∃ r : List V → Hp → VK → Prop, CallR X f r ∧
  ∀ (vs : List V) (ds es : List D) (S : List Slot) (σ : Sg) (c : Cfg) (Q : VK), g ds = some es → Holds X.K S σ c → LoA X.K c vs ds → (∀ c' p us, Stp c c' → Holds X.K S σ c' → c'.H p = none → RpA X.K c'.Z us es → Q (.ref p) (upd c'.H p (.lst us))) → r vs c.H Q
def eB (g : List D → Option D) (fa : EM (List D)) : EM D := eBind fa fun ds => eOpt (g ds)
def eBF (g : List D → Option (List D)) (fa : EM (List D)) : EM (List D) := eBind fa fun ds => eOpt (g ds)
variable {x : Str} {p : Pos} {e : Expr} {es : List Expr} {fa : EM (List D)}
theorem cb_rd {r : List V → Hp → VK → Prop} {g : List D → Option D} (hr : ∀ (vs : List V) (ds : List D) (d : D) (S : List Slot) (σ : Sg) (c : Cfg) (Q : VK), g ds = some d → Holds X.K S σ c → LoA X.K c vs ds → (∀ c' v, Stp c c' → Holds X.K S σ c' → Rp X.K c'.Z v d → Q v c'.H) → r vs c.H Q)
    (σ : Sg) (H : Hp) (Q : VK) (q : tD (gx X W) (eB g fa) σ H Q) : tCB r (tDs (gx X W) fa) σ H Q := by
  obtain ⟨S, Z, F, h, q⟩ := q
  refine ⟨S, Z, F, h, (Go.bind q).mono fun ds S1 c1 s1 h1 q1 vs rs => ?_⟩
  obtain ⟨d, e, k⟩ := Go.opt q1
  exact hr vs ds d S1 σ c1 Q e h1 (LoA.of rs) fun c' v st hh rv => k c' st hh v rv
theorem cf_rd {r : List V → Hp → VK → Prop} {g : List D → Option (List D)} (hr : ∀ (vs : List V) (ds es : List D) (S : List Slot) (σ : Sg) (c : Cfg) (Q : VK), g ds = some es → Holds X.K S σ c → LoA X.K c vs ds → (∀ c' p us, Stp c c' → Holds X.K S σ c' → c'.H p = none → RpA X.K c'.Z us es → Q (.ref p) (upd c'.H p (.lst us))) → r vs c.H Q)
    (σ : Sg) (H : Hp) (Q : VK) (q : tF (gx X W) (eBF g fa) σ H Q) : tCB r (tDs (gx X W) fa) σ H Q := by
  obtain ⟨S, Z, F, h, q⟩ := q
  refine ⟨S, Z, F, h, (Go.bind q).mono fun ds S1 c1 s1 h1 q1 vs rs => ?_⟩
  obtain ⟨d, e, k⟩ := Go.opt q1
  exact hr vs ds d S1 σ c1 Q e h1 (LoA.of rs) fun c' pn us st hh hp ru => k c' st hh pn us hp ru
theorem de_B {id : String} {g : List D → Option D} (hc : CallD X W (.builtin id) g) (hg : Gl X x) (hm : X.mg x = none) (hv : bootBuiltins x = some (.builtin id)) (ha : DA X W (e :: es) fa) (hn : x ≠ "__name__" := by decide) (hd : (x == ("__debug__" : Str)) = false := by decide)
    (hs : starEach (e :: es) X.env = (false, eval e X.env) :: starEach es X.env := by rfl) (hpl : (backTo pos (starEach es X.env)).any (·.1) = false := by rfl) : DE X W (.Call (.Name x p) (e :: es) [] pos) (eB g fa) := by
  obtain ⟨r, hc, hr⟩ := hc
  exact PE.wk (pe_callB hc hg hm hv ha (hn := hn) (hdb := hd) (he := hs) (hpl := hpl)) (cb_rd hr)
theorem de_Ty {T : String} {g : List D → Option D} (hc : CallD X W (.type T) g) (hg : Gl X x) (hm : X.mg x = none) (hv : bootBuiltins x = some (.type T)) (ha : DA X W (e :: es) fa) (hn : x ≠ "__name__" := by decide) (hd : (x == ("__debug__" : Str)) = false := by decide)
    (hs : starEach (e :: es) X.env = (false, eval e X.env) :: starEach es X.env := by rfl) (hpl : (backTo pos (starEach es X.env)).any (·.1) = false := by rfl) : DE X W (.Call (.Name x p) (e :: es) [] pos) (eB g fa) := by
  obtain ⟨r, hc, hr⟩ := hc
  exact PE.wk (pe_callTy hc hg hm hv ha (hn := hn) (hdb := hd) (he := hs) (hpl := hpl)) (cb_rd hr)
theorem df_B {id : String} {g : List D → Option (List D)} (hc : CallF X W (.builtin id) g) (hg : Gl X x) (hm : X.mg x = none) (hv : bootBuiltins x = some (.builtin id)) (ha : DA X W (e :: es) fa) (hn : x ≠ "__name__" := by decide) (hd : (x == ("__debug__" : Str)) = false := by decide)
    (hs : starEach (e :: es) X.env = (false, eval e X.env) :: starEach es X.env := by rfl) (hpl : (backTo pos (starEach es X.env)).any (·.1) = false := by rfl) : DF X W (.Call (.Name x p) (e :: es) [] pos) (eBF g fa) := by
  obtain ⟨r, hc, hr⟩ := hc
  exact PE.wk (pe_callB hc hg hm hv ha (hn := hn) (hdb := hd) (he := hs) (hpl := hpl)) (cf_rd hr)
theorem df_Ty {T : String} {g : List D → Option (List D)} (hc : CallF X W (.type T) g) (hg : Gl X x) (hm : X.mg x = none) (hv : bootBuiltins x = some (.type T)) (ha : DA X W (e :: es) fa) (hn : x ≠ "__name__" := by decide) (hd : (x == ("__debug__" : Str)) = false := by decide)
    (hs : starEach (e :: es) X.env = (false, eval e X.env) :: starEach es X.env := by rfl) (hpl : (backTo pos (starEach es X.env)).any (·.1) = false := by rfl) : DF X W (.Call (.Name x p) (e :: es) [] pos) (eBF g fa) := by
  obtain ⟨r, hc, hr⟩ := hc
  exact PE.wk (pe_callTy hc hg hm hv ha (hn := hn) (hdb := hd) (he := hs) (hpl := hpl)) (cf_rd hr)
/-- the one argument a list in a slot of its own -/
def eBO (g : List D → Option D) (i : Nat) : EM D := fun S => match slotAt S i with
  | some d => eOpt (g [d]) S
  | none => .bad
def eBFO (g : List D → Option (List D)) (i : Nat) : EM (List D) := fun S => match slotAt S i with
  | some d => eOpt (g [d]) S
  | none => .bad
theorem cbO_rd {r : List V → Hp → VK → Prop} {g : List D → Option D} {i : Nat} (hr : ∀ (vs : List V) (ds : List D) (d : D) (S : List Slot) (σ : Sg) (c : Cfg) (Q : VK), g ds = some d → Holds X.K S σ c → LoA X.K c vs ds → (∀ c' v, Stp c c' → Holds X.K S σ c' → Rp X.K c'.Z v d → Q v c'.H) → r vs c.H Q)
    (σ : Sg) (H : Hp) (Q : VK) (q : tD (gx X W) (eBO g i) σ H Q) : tCB r (tCons (tVar i) tNil) σ H Q := by
  obtain ⟨S, Z, F, h, q⟩ := q
  unfold eBO at q
  split at q
  · rename_i ds e
    obtain ⟨p, e2, r1⟩ := h.loAt e
    obtain ⟨d, e4, k⟩ := Go.opt q
    exact ⟨.ref p, e2, hr [.ref p] [ds] d S σ ⟨Z, H, F⟩ Q e4 h (.cons r1 .nil) fun c' v st hh rv => k c' st hh v rv⟩
  · exact q.elim
theorem cfO_rd {r : List V → Hp → VK → Prop} {g : List D → Option (List D)} {i : Nat} (hr : ∀ (vs : List V) (ds es : List D) (S : List Slot) (σ : Sg) (c : Cfg) (Q : VK), g ds = some es → Holds X.K S σ c → LoA X.K c vs ds → (∀ c' p us, Stp c c' → Holds X.K S σ c' → c'.H p = none → RpA X.K c'.Z us es → Q (.ref p) (upd c'.H p (.lst us))) → r vs c.H Q)
    (σ : Sg) (H : Hp) (Q : VK) (q : tF (gx X W) (eBFO g i) σ H Q) : tCB r (tCons (tVar i) tNil) σ H Q := by
  obtain ⟨S, Z, F, h, q⟩ := q
  unfold eBFO at q
  split at q
  · rename_i ds e
    obtain ⟨p, e2, r1⟩ := h.loAt e
    obtain ⟨d, e4, k⟩ := Go.opt q
    exact ⟨.ref p, e2, hr [.ref p] [ds] d S σ ⟨Z, H, F⟩ Q e4 h (.cons r1 .nil) fun c' pn us st hh hp ru => k c' st hh pn us hp ru⟩
  · exact q.elim
variable {y : Str} {p2 : Pos}
theorem de_BO {id : String} {g : List D → Option D} (i : Nat) (hc : CallD X W (.builtin id) g) (hg : Gl X x) (hm : X.mg x = none) (hv : bootBuiltins x = some (.builtin id)) (hN : X.N[i]? = some y := by rfl) (hvi : Vis X.env.scope y := by first | exact Or.inl rfl | exact Or.inr (Or.inl rfl) | exact Or.inr (Or.inr rfl)) (hdy : (y == ("__debug__" : Str)) = false := by decide)
    (hcd : (y == ("__classdict__" : Str)) = false := by decide) (hn : x ≠ "__name__" := by decide) (hd : (x == ("__debug__" : Str)) = false := by decide)
    (hs : starEach [.Name y p2] X.env = (false, eval (.Name y p2) X.env) :: starEach [] X.env := by rfl) (hpl : (backTo pos (starEach [] X.env)).any (·.1) = false := by rfl) : DE X W (.Call (.Name x p) [.Name y p2] [] pos) (eBO g i) := by
  obtain ⟨r, hc, hr⟩ := hc
  exact PE.wk (pe_callB hc hg hm hv (pa_cons (pe_var hN hvi hdy hcd) pa_nil hs) (hn := hn) (hdb := hd) (he := hs) (hpl := hpl)) (cbO_rd hr)
theorem de_TyO {T : String} {g : List D → Option D} (i : Nat) (hc : CallD X W (.type T) g) (hg : Gl X x) (hm : X.mg x = none) (hv : bootBuiltins x = some (.type T)) (hN : X.N[i]? = some y := by rfl) (hvi : Vis X.env.scope y := by first | exact Or.inl rfl | exact Or.inr (Or.inl rfl) | exact Or.inr (Or.inr rfl)) (hdy : (y == ("__debug__" : Str)) = false := by decide)
    (hcd : (y == ("__classdict__" : Str)) = false := by decide) (hn : x ≠ "__name__" := by decide) (hd : (x == ("__debug__" : Str)) = false := by decide)
    (hs : starEach [.Name y p2] X.env = (false, eval (.Name y p2) X.env) :: starEach [] X.env := by rfl) (hpl : (backTo pos (starEach [] X.env)).any (·.1) = false := by rfl) : DE X W (.Call (.Name x p) [.Name y p2] [] pos) (eBO g i) := by
  obtain ⟨r, hc, hr⟩ := hc
  exact PE.wk (pe_callTy hc hg hm hv (pa_cons (pe_var hN hvi hdy hcd) pa_nil hs) (hn := hn) (hdb := hd) (he := hs) (hpl := hpl)) (cbO_rd hr)
theorem RpA.one {K : PySem.W.Frag} {Z : Hp} {vs : List V} {d : D} (h : RpA K Z vs [d]) : ∃ v, vs = [v] ∧ Rp K Z v d := by
  cases h with
  | cons h1 h2 =>
    cases h2
    exact ⟨_, rfl, h1⟩
theorem RpA.two {K : PySem.W.Frag} {Z : Hp} {vs : List V} {d e : D} (h : RpA K Z vs [d, e]) : ∃ v u, vs = [v, u] ∧ Rp K Z v d ∧ Rp K Z u e := by
  cases h with
  | cons h1 h2 =>
    obtain ⟨u, rfl, h3⟩ := h2.one
    exact ⟨_, _, rfl, h1, h3⟩
def lenD : List D → Option D
  | [.list ds] => some (.int ds.length)
  | [.tuple ds] => some (.int ds.length)
  | [.str z] => if z.length ≤ sizeLine then some (.int z.length) else none
  | [.dict es] => (dicOf (.dict es)).map fun te => .int te.2.length
  | _ => none
theorem CallR.or' {f : Value} {r r' : List V → Hp → VK → Prop} (h : CallR X f r) (h' : CallR X f r') : CallR X f (fun vs H Q => r vs H Q ∨ r' vs H Q) := by
  intro pins s σ H xs us Q I rv q
  rcases q with q | q
  · exact h pins s σ H xs us Q I rv q
  · exact h' pins s σ H xs us Q I rv q
def rLenDic : List V → Hp → VK → Prop := fun xs H Q => ∃ (a : Addr) (u : HO) (n : Nat), xs = [.ref a] ∧ Rd H a u ∧ ((∃ kvs : List (Key × V), u = .dK kvs ∧ kvs.length = n) ∨ ∃ kvs : List (List Key × V), u = .dT kvs ∧ kvs.length = n) ∧ Q (.int n) H
theorem call_lenDic : CallR X (.builtin "len") rLenDic := by
  intro pins s σ H xs us Q I r h
  obtain ⟨a, u, n, rfl, hr, hk, q⟩ := h
  obtain rfl := Vals.ref1 r
  rcases hk with ⟨kvs, rfl, rfl⟩ | ⟨kvs, rfl, rfl⟩
  · obtain ⟨z, hd, vs, rel, dd⟩ := dk_rd I.hok hr
    refine call_len_dict hd dd (by rw [← rel.length]; rw [sizeLine_eq] at z; omega) ?_
    rw [← rel.length]
    exact ⟨.int kvs.length, H, I.tok _, ⟨_, rfl⟩, q⟩
  · obtain ⟨z, hd, xs, rel, dd⟩ := dt_rd I.hok hr
    have hl : kvs.length = xs.length := Paired.length rel
    refine call_len_dictH hd dd (by rw [← hl]; rw [sizeLine_eq] at z; omega) ?_
    rw [← hl]
    exact ⟨.int kvs.length, H, I.tok _, ⟨_, rfl⟩, q⟩
theorem cd_len : CallD X W (.builtin "len") lenD := by
  refine ⟨_, CallR.or' call_lenDic call_len, fun vs ds d S σ c Q e hh rs q => ?_⟩
  by_cases hD : ∃ es, ds = [.dict es]
  · obtain ⟨es, rfl⟩ := hD
    obtain ⟨te, e1, e2⟩ := Option.map_eq_some_iff.mp (show (dicOf (.dict es)).map (fun te => PyData.int te.2.length) = some d from e)
    cases e2
    obtain ⟨v, rfl, r⟩ := rs.one
    obtain ⟨p, u, rfl, hr, da⟩ := r.dicI (t := te.1) (es := te.2) hh.zh e1
    refine .inl ⟨p, u, te.2.length, rfl, hr, ?_, q c _ (Stp.refl _) hh (.int _)⟩
    rcases da.len with ⟨kvs, h1, h2⟩ | ⟨kvs, h1, h2⟩
    · cases h1; exact .inl ⟨kvs, rfl, h2⟩
    · cases h1; exact .inr ⟨kvs, rfl, h2⟩
  refine .inr ?_
  unfold lenD at e
  split at e
  · cases e
    obtain ⟨v, rfl, r⟩ := rs.one
    obtain ⟨a, xs, rfl, a1, r1⟩ := r.lstI hh.zh
    exact ⟨_, _, rfl, .inl ⟨xs, SqL.of a1, r1.length.symm⟩, q c _ (Stp.refl _) hh (.int _)⟩
  · cases e
    obtain ⟨v, rfl, r⟩ := rs.one
    obtain ⟨a, xs, rfl, a1, r1⟩ := r.tupI
    exact ⟨_, _, rfl, .inr ⟨xs, sameT hh.zh a1, r1.length.symm⟩, q c _ (Stp.refl _) hh (.int _)⟩
  · split at e
    · rename_i hz
      cases e
      obtain ⟨v, rfl, r⟩ := rs.one
      cases r.strI
      exact ⟨_, _, rfl, ⟨hz, rfl⟩, q c _ (Stp.refl _) hh (.int _)⟩
    · cases e
  · exact absurd ⟨_, rfl⟩ hD
  · cases e
/-- lists of numbers, of truth values -/
def allI : List D → Option (List Int)
  | [] => some []
  | .int i :: ds => (allI ds).map (i :: ·)
  | _ :: _ => none
def allB : List D → Option (List Bool)
  | [] => some []
  | .bool i :: ds => (allB ds).map (i :: ·)
  | _ :: _ => none
theorem allI_ok : ∀ {ds : List D} {ns : List Int}, allI ds = some ns → ds = ns.map PyData.int
  | [], _, h => by cases h; rfl
  | .int i :: ds, ns, h => by
    obtain ⟨ms, e1, e2⟩ := Option.map_eq_some_iff.mp (show (allI ds).map (i :: ·) = some ns from h)
    subst e2
    rw [allI_ok e1]
    rfl
theorem allB_ok : ∀ {ds : List D} {ns : List Bool}, allB ds = some ns → ds = ns.map PyData.bool
  | [], _, h => by cases h; rfl
  | .bool i :: ds, ns, h => by
    obtain ⟨ms, e1, e2⟩ := Option.map_eq_some_iff.mp (show (allB ds).map (i :: ·) = some ns from h)
    subst e2
    rw [allB_ok e1]
    rfl
theorem allI_map (ns : List Int) : allI (ns.map PyData.int) = some ns := by
  induction ns with
  | nil => rfl
  | cons n ns ih =>
    show (allI (ns.map PyData.int)).map (n :: ·) = _
    rw [ih]
    rfl
theorem allB_map (ns : List Bool) : allB (ns.map PyData.bool) = some ns := by
  induction ns with
  | nil => rfl
  | cons n ns ih =>
    show (allB (ns.map PyData.bool)).map (n :: ·) = _
    rw [ih]
    rfl
theorem RpA.intsV {K : PySem.W.Frag} {Z : Hp} : ∀ {ns : List Int} {vs : List V}, RpA K Z vs (ns.map PyData.int) → vs = ns.map V.int
  | [], _, h => by cases h; rfl
  | n :: ns, _, h => by
    cases h with
    | cons h1 h2 =>
      cases h1
      rw [RpA.intsV h2]
      rfl
theorem RpA.blsV {K : PySem.W.Frag} {Z : Hp} : ∀ {ns : List Bool} {vs : List V}, RpA K Z vs (ns.map PyData.bool) → vs = ns.map V.bl
  | [], _, h => by cases h; rfl
  | n :: ns, _, h => by
    cases h with
    | cons h1 h2 =>
      cases h1
      rw [RpA.blsV h2]
      rfl
theorem RpA.ofI {K : PySem.W.Frag} {Z : Hp} : ∀ (ns : List Int), RpA K Z (ns.map V.int) (ns.map PyData.int)
  | [] => .nil
  | n :: ns => .cons (.int n) (RpA.ofI ns)
def sumD : List D → Option D
  | [.list ds] => (allI ds).map fun ns => .int ns.sum
  | _ => none
theorem cd_sum (hc : X.calm = true) : CallD X W (.builtin "sum") sumD := by
  refine ⟨_, cr_sum hc, fun vs ds d S σ c Q e hh rs q => ?_⟩
  unfold sumD at e
  split at e
  · obtain ⟨ns, e1, e2⟩ := Option.map_eq_some_iff.mp e
    subst e2
    obtain ⟨v, rfl, r⟩ := rs.one
    obtain ⟨a, xs, rfl, a1, r1⟩ := r.lstI hh.zh
    rw [allI_ok e1] at r1
    cases r1.intsV
    exact ⟨a, ns, rfl, SqL.of a1, q c _ (Stp.refl _) hh (.int _)⟩
  · cases e
def allD : List D → Option D
  | [.list ds] => (allB ds).map fun ns => .bool (ns.all id)
  | _ => none
def anyD : List D → Option D
  | [.list ds] => (allB ds).map fun ns => .bool (ns.any id)
  | _ => none
theorem cd_all (hc : X.calm = true) : CallD X W (.builtin "all") allD := by
  refine ⟨_, cr_all hc, fun vs ds d S σ c Q e hh rs q => ?_⟩
  unfold allD at e
  split at e
  · obtain ⟨ns, e1, e2⟩ := Option.map_eq_some_iff.mp e
    subst e2
    obtain ⟨v, rfl, r⟩ := rs.one
    obtain ⟨a, xs, rfl, a1, r1⟩ := r.lstI hh.zh
    rw [allB_ok e1] at r1
    cases r1.blsV
    exact ⟨a, ns, rfl, SqL.of a1, q c _ (Stp.refl _) hh (.bl _)⟩
  · cases e
theorem cd_any (hc : X.calm = true) : CallD X W (.builtin "any") anyD := by
  refine ⟨_, cr_any hc, fun vs ds d S σ c Q e hh rs q => ?_⟩
  unfold anyD at e
  split at e
  · obtain ⟨ns, e1, e2⟩ := Option.map_eq_some_iff.mp e
    subst e2
    obtain ⟨v, rfl, r⟩ := rs.one
    obtain ⟨a, xs, rfl, a1, r1⟩ := r.lstI hh.zh
    rw [allB_ok e1] at r1
    cases r1.blsV
    exact ⟨a, ns, rfl, SqL.of a1, q c _ (Stp.refl _) hh (.bl _)⟩
  · cases e
def absD : List D → Option D
  | [.int i] => some (.int (if i < 0 then -i else i))
  | _ => none
theorem cd_abs : CallD X W (.builtin "abs") absD := by
  refine ⟨_, call_abs, fun vs ds d S σ c Q e hh rs q => ?_⟩
  unfold absD at e
  split at e
  · cases e
    cases rs.i1
    exact ⟨_, rfl, q c _ (Stp.refl _) hh (.int _)⟩
  · cases e
def intD : List D → Option D
  | [.int i] => some (.int i)
  | [.bool b] => some (.int (if b then 1 else 0))
  | _ => none
theorem cd_int : CallD X W (.type "int") intD := by
  refine ⟨_, call_int1, fun vs ds d S σ c Q e hh rs q => ?_⟩
  unfold intD at e
  split at e
  · cases e
    cases rs.i1
    exact .inl ⟨_, rfl, q c _ (Stp.refl _) hh (.int _)⟩
  · cases e
    obtain ⟨v, rfl, r⟩ := rs.one
    cases r.boolI
    exact .inr ⟨_, rfl, q c _ (Stp.refl _) hh (.int _)⟩
  · cases e
def tupleD : List D → Option D
  | [.list ds] => some (.tuple ds)
  | [.tuple ds] => some (.tuple ds)
  | _ => none
theorem cd_tuple : CallD X W (.type "tuple") tupleD := by
  refine ⟨_, call_tuple_of, fun vs ds d S σ c Q e hh rs q => ?_⟩
  unfold tupleD at e
  split at e
  · cases e
    obtain ⟨v, rfl, r⟩ := rs.one
    obtain ⟨a, xs, rfl, a1, r1⟩ := r.lstI hh.zh
    refine ⟨a, xs, rfl, .inl ⟨SqL.of a1, fun pn hp => ?_⟩⟩
    obtain ⟨st, h2, r2⟩ := hh.layT hp r1
    exact q _ _ st h2 r2
  · cases e
    obtain ⟨v, rfl, r⟩ := rs.one
    obtain ⟨a, xs, rfl, a1, r1⟩ := r.tupZ.tupS
    exact ⟨a, xs, rfl, .inr ⟨sameT hh.zh (SqT.of a1), q c _ (Stp.refl _) hh (.tup a1 r1)⟩⟩
  · cases e
def listD : List D → Option (List D)
  | [.list ds] => some ds
  | [.tuple ds] => some ds
  | _ => none
theorem cf_list : CallF X W (.type "list") listD := by
  refine ⟨_, call_list_of, fun vs ds es S σ c Q e hh rs q => ?_⟩
  unfold listD at e
  split at e
  · cases e
    obtain ⟨v, rfl, r⟩ := rs.one
    obtain ⟨a, xs, rfl, a1, r1⟩ := r.lstI hh.zh
    exact ⟨a, xs, rfl, .inl (SqL.of a1), fun pn hp => q c pn xs (Stp.refl _) hh hp r1⟩
  · cases e
    obtain ⟨v, rfl, r⟩ := rs.one
    obtain ⟨a, xs, rfl, a1, r1⟩ := r.tupI
    exact ⟨a, xs, rfl, .inr (sameT hh.zh a1), fun pn hp => q c pn xs (Stp.refl _) hh hp r1⟩
  · cases e
def maxI : List Int → Option Int
  | [] => none
  | n :: ns => some (ns.foldl (fun a b => if a < b then b else a) n)
def minI : List Int → Option Int
  | [] => none
  | n :: ns => some (ns.foldl (fun a b => if b < a then b else a) n)
theorem fmax : ∀ (ns : List Int) (n : Int), (ns.foldl (fun a b => if a < b then b else a) n = n ∨ ns.foldl (fun a b => if a < b then b else a) n ∈ ns) ∧ n ≤ ns.foldl (fun a b => if a < b then b else a) n ∧ ∀ y ∈ ns, y ≤ ns.foldl (fun a b => if a < b then b else a) n
  | [], n => ⟨.inl rfl, Int.le_refl _, fun y h => by simp at h⟩
  | m :: ns, n => by
    rw [List.foldl_cons]
    obtain ⟨h1, h2, h3⟩ := fmax ns (if n < m then m else n)
    by_cases h : n < m
    · rw [if_pos h] at h1 h2 h3 ⊢
      refine ⟨?_, by omega, fun y hy => ?_⟩
      · rcases h1 with h1 | h1
        · rw [h1]; simp
        · simp [h1]
      · rcases List.mem_cons.mp hy with e | hy
        · rw [e]; exact h2
        · exact h3 y hy
    · rw [if_neg h] at h1 h2 h3 ⊢
      refine ⟨?_, h2, fun y hy => ?_⟩
      · rcases h1 with h1 | h1
        · exact .inl h1
        · simp [h1]
      · rcases List.mem_cons.mp hy with e | hy
        · rw [e]; omega
        · exact h3 y hy
theorem fmin : ∀ (ns : List Int) (n : Int), (ns.foldl (fun a b => if b < a then b else a) n = n ∨ ns.foldl (fun a b => if b < a then b else a) n ∈ ns) ∧ ns.foldl (fun a b => if b < a then b else a) n ≤ n ∧ ∀ y ∈ ns, ns.foldl (fun a b => if b < a then b else a) n ≤ y
  | [], n => ⟨.inl rfl, Int.le_refl _, fun y h => by simp at h⟩
  | m :: ns, n => by
    rw [List.foldl_cons]
    obtain ⟨h1, h2, h3⟩ := fmin ns (if m < n then m else n)
    by_cases h : m < n
    · rw [if_pos h] at h1 h2 h3 ⊢
      refine ⟨?_, by omega, fun y hy => ?_⟩
      · rcases h1 with h1 | h1
        · rw [h1]; simp
        · simp [h1]
      · rcases List.mem_cons.mp hy with e | hy
        · rw [e]; exact h2
        · exact h3 y hy
    · rw [if_neg h] at h1 h2 h3 ⊢
      refine ⟨?_, h2, fun y hy => ?_⟩
      · rcases h1 with h1 | h1
        · exact .inl h1
        · simp [h1]
      · rcases List.mem_cons.mp hy with e | hy
        · rw [e]; omega
        · exact h3 y hy
theorem maxI_spec {ns : List Int} {m : Int} (h : maxI ns = some m) : m ∈ ns ∧ ∀ y ∈ ns, y ≤ m := by
  cases ns with
  | nil => cases h
  | cons n ns =>
    cases h
    obtain ⟨h1, h2, h3⟩ := fmax ns n
    refine ⟨?_, fun y hy => ?_⟩
    · rcases h1 with h1 | h1
      · rw [h1]; simp
      · simp [h1]
    · rcases List.mem_cons.mp hy with e | hy
      · rw [e]; exact h2
      · exact h3 y hy
theorem minI_spec {ns : List Int} {m : Int} (h : minI ns = some m) : m ∈ ns ∧ ∀ y ∈ ns, m ≤ y := by
  cases ns with
  | nil => cases h
  | cons n ns =>
    cases h
    obtain ⟨h1, h2, h3⟩ := fmin ns n
    refine ⟨?_, fun y hy => ?_⟩
    · rcases h1 with h1 | h1
      · rw [h1]; simp
      · simp [h1]
    · rcases List.mem_cons.mp hy with e | hy
      · rw [e]; exact h2
      · exact h3 y hy
def maxD : List D → Option D
  | [.list ds] => ((allI ds).bind maxI).map PyData.int
  | [.int i, .int j] => some (.int (if j > i then j else i))
  | _ => none
def minD : List D → Option D
  | [.list ds] => ((allI ds).bind minI).map PyData.int
  | [.int i, .int j] => some (.int (if j < i then j else i))
  | _ => none
theorem cd_max (hc : X.calm = true) : CallD X W (.builtin "max") maxD := by
  refine ⟨_, (cr_max hc).or (call_max2 hc), fun vs ds d S σ c Q e hh rs q => ?_⟩
  unfold maxD at e
  split at e
  · obtain ⟨m, e1, e2⟩ := Option.map_eq_some_iff.mp e
    obtain ⟨ns, e3, e4⟩ := Option.bind_eq_some_iff.mp e1
    subst e2
    obtain ⟨v, rfl, r⟩ := rs.one
    obtain ⟨a, xs, rfl, a1, r1⟩ := r.lstI hh.zh
    rw [allI_ok e3] at r1
    cases r1.intsV
    obtain ⟨m1, m2⟩ := maxI_spec e4
    refine .inl ⟨a, ns, rfl, SqL.of a1, List.length_pos_of_mem m1, fun k k1 k2 => ?_⟩
    have : k = m := by
      have := k2 m m1
      have := m2 k k1
      omega
    subst this
    exact q c _ (Stp.refl _) hh (.int _)
  · cases e
    cases rs.i2
    exact .inr ⟨_, _, rfl, q c _ (Stp.refl _) hh (.int _)⟩
  · cases e
theorem cd_min (hc : X.calm = true) : CallD X W (.builtin "min") minD := by
  refine ⟨_, (cr_min hc).or (call_min2 hc), fun vs ds d S σ c Q e hh rs q => ?_⟩
  unfold minD at e
  split at e
  · obtain ⟨m, e1, e2⟩ := Option.map_eq_some_iff.mp e
    obtain ⟨ns, e3, e4⟩ := Option.bind_eq_some_iff.mp e1
    subst e2
    obtain ⟨v, rfl, r⟩ := rs.one
    obtain ⟨a, xs, rfl, a1, r1⟩ := r.lstI hh.zh
    rw [allI_ok e3] at r1
    cases r1.intsV
    obtain ⟨m1, m2⟩ := minI_spec e4
    refine .inl ⟨a, ns, rfl, SqL.of a1, List.length_pos_of_mem m1, fun k k1 k2 => ?_⟩
    have : k = m := by
      have := k2 m m1
      have := m2 k k1
      omega
    subst this
    exact q c _ (Stp.refl _) hh (.int _)
  · cases e
    cases rs.i2
    exact .inr ⟨_, _, rfl, q c _ (Stp.refl _) hh (.int _)⟩
  · cases e
end
end FW

/-! FwH: lists that are changed, isinstance, borrowed lists. -/
namespace FW
open PySem PySem.Spec L2
open PyProof.Rows hiding St
section
variable {X : Cx} {W : WX} {pos : Pos}
/-- a list in a slot of its own is changed -/
theorem Holds.mutO {K : PySem.W.Frag} {S : List Slot} {σ : Sg} {c : Cfg} {i : Nat} {ds : List D} (h : Holds K S σ c) (e : S[i]? = some (.own ds)) :
    ∃ p vs, σ[i]? = some (some (V.ref p)) ∧ c.H p = some (.lst vs) ∧ RpA K c.Z vs ds ∧ ∀ ds' vs', RpA K c.Z vs' ds' →
      Stp c ⟨c.Z, upd c.H p (.lst vs'), c.F⟩ ∧ Holds K (S.set i (.own ds')) σ ⟨c.Z, upd c.H p (.lst vs'), c.F⟩ := by
  obtain ⟨A, Fi, B, x, e1, e2, ⟨p, vs, e3, e4, e5, e6⟩, up⟩ := h.l.at e
  subst e3 e4
  have pF : p ∈ c.F := by rw [e1]; simp
  refine ⟨p, vs, e2, e5, e6, fun ds' vs' r => ⟨⟨Same.refl _, fun b o q hn => (upd_ne (show b ≠ p from fun z => hn (z ▸ pF))).trans q, fun b o q => ?_, fun b o q => .inl q, fun b m => .inl m⟩, ⟨?_, h.nd, h.zf, fun b o q => ?_⟩⟩⟩
  · by_cases hb : b = p
    · subst hb
      exact ⟨_, upd_same⟩
    · exact ⟨o, (upd_ne hb).trans q⟩
  · have nd := h.nd
    rw [e1] at nd
    have q := up ⟨c.Z, upd c.H p (.lst vs'), c.F⟩ (.own ds') (some (.ref p)) [p] (Same.refl _) (fun a m => upd_ne (show a ≠ p by
      rintro rfl
      simp only [List.nodup_append, List.nodup_cons, List.mem_append, List.mem_cons] at nd m
      grind)) ⟨p, vs', rfl, rfl, upd_same, r⟩
    rw [list_set_self e2] at q
    show HoldsL K ⟨c.Z, upd c.H p (.lst vs'), c.F⟩ (S.set i (.own ds')) σ c.F
    have e1' := e1
    generalize c.F = FF at e1' q ⊢
    rw [e1']
    rw [e1'] at q
    exact q
  · have nb : b ≠ p := by
      rintro rfl
      have q' : c.Z b = some o := q
      rw [h.zf b pF] at q'
      cases q'
    exact (upd_ne nb).trans (h.zh b o q)
theorem Holds.mutD {K : PySem.W.Frag} {S : List Slot} {σ : Sg} {c : Cfg} {i : Nat} {t : Bool} {es : List (D × D)} (h : Holds K S σ c) (e : S[i]? = some (.dic t es)) :
    ∃ p, σ[i]? = some (some (V.ref p)) ∧ DicAt K c.Z (c.H p) t es ∧ ∀ es' u, DicAt K c.Z (some u) t es' →
      Stp c ⟨c.Z, upd c.H p u, c.F⟩ ∧ Holds K (S.set i (.dic t es')) σ ⟨c.Z, upd c.H p u, c.F⟩ := by
  obtain ⟨A, Fi, B, x, e1, e2, ⟨p, e3, e4, e5⟩, up⟩ := h.l.at e
  subst e3 e4
  have pF : p ∈ c.F := by rw [e1]; simp
  refine ⟨p, e2, e5, fun es' u r => ⟨⟨Same.refl _, fun b o q hn => (upd_ne (show b ≠ p from fun z => hn (z ▸ pF))).trans q, fun b o q => ?_, fun b o q => .inl q, fun b m => .inl m⟩, ⟨?_, h.nd, h.zf, fun b o q => ?_⟩⟩⟩
  · by_cases hb : b = p
    · subst hb
      exact ⟨_, upd_same⟩
    · exact ⟨o, (upd_ne hb).trans q⟩
  · have nd := h.nd
    rw [e1] at nd
    have q := up ⟨c.Z, upd c.H p u, c.F⟩ (.dic t es') (some (.ref p)) [p] (Same.refl _) (fun a m => upd_ne (show a ≠ p by
      rintro rfl
      simp only [List.nodup_append, List.nodup_cons, List.mem_append, List.mem_cons] at nd m
      grind)) ⟨p, rfl, rfl, by
        show DicAt K c.Z (upd c.H p u p) t es'
        rw [upd_same]
        exact r⟩
    rw [list_set_self e2] at q
    show HoldsL K ⟨c.Z, upd c.H p u, c.F⟩ (S.set i (.dic t es')) σ c.F
    have e1' := e1
    generalize c.F = FF at e1' q ⊢
    rw [e1']
    rw [e1'] at q
    exact q
  · have nb : b ≠ p := by
      rintro rfl
      have q' : c.Z b = some o := q
      rw [h.zf b pF] at q'
      cases q'
    exact (upd_ne nb).trans (h.zh b o q)
/-- a method that changes the list: what it hands back and what the list is then -/
def MtD (X : Cx) (id : String) (g : List D → List D → Option (D × List D)) : Prop := ∃ r, MtR X id r ∧
  ∀ (p : Addr) (vs us : List V) (ds as : List D) (d : D) (ds' : List D) (K : PySem.W.Frag) (c : Cfg) (Q : VK), g ds as = some (d, ds') → c.H p = some (.lst vs) → RpA K c.Z vs ds → RpA K c.Z us as →
    (∀ v vs', Rp K c.Z v d → RpA K c.Z vs' ds' → Q v (upd c.H p (.lst vs'))) → r (.ref p) us c.H Q
def eMut (i : Nat) (g : List D → List D → Option (D × List D)) (fa : EM (List D)) : EM D := fun S0 => match S0[i]? with
  | some (.own _) => eBind fa (fun as S => match S[i]? with
    | some (.own ds) => (match g ds as with
      | some (d, ds') => .ok d (S.set i (.own ds'))
      | none => .bad)
    | _ => .bad) S0
  | _ => .bad
variable {x : Str} {p apos : Pos} {name : Str} {id : String} {g : List D → List D → Option (D × List D)} {fa : EM (List D)} {e : Expr} {es : List Expr}
theorem mut_rd {r : V → List V → Hp → VK → Prop} {i : Nat} (hr : ∀ (p : Addr) (vs us : List V) (ds as : List D) (d : D) (ds' : List D) (K : PySem.W.Frag) (c : Cfg) (Q : VK), g ds as = some (d, ds') → c.H p = some (.lst vs) → RpA K c.Z vs ds → RpA K c.Z us as →
    (∀ v vs', Rp K c.Z v d → RpA K c.Z vs' ds' → Q v (upd c.H p (.lst vs'))) → r (.ref p) us c.H Q) (σ : Sg) (H : Hp) (Q : VK) (q : tD (gx X W) (eMut i g fa) σ H Q) :
    tBM X.K "list" r (tVar i) (tDs (gx X W) fa) σ H Q := by
  obtain ⟨S, Z, F, h, q⟩ := q
  unfold eMut at q
  split at q
  · rename_i ds0 e0
    obtain ⟨p0, vs0, e2, e3, _⟩ := h.mutO e0
    refine ⟨.ref p0, e2, .inl ⟨rfl, _, SqL.of e3⟩, S, Z, F, h, (Go.bind q).mono fun as S1 c1 s1 h1 q1 us ru => ?_⟩
    split at q1
    · rename_i ds e1
      obtain ⟨p1, vs1, e4, e5, r1, back⟩ := h1.mutO e1
      rw [e2] at e4
      cases e4
      cases eg : g ds as with
      | none => simp only [eg] at q1; exact q1.elim
      | some dd =>
        obtain ⟨d, ds'⟩ := dd
        simp only [eg] at q1
        refine hr p0 vs1 us ds as d ds' X.K c1 Q eg e5 r1 ru fun v vs' rv rs => ?_
        obtain ⟨st, hh⟩ := back ds' vs' rs
        exact q1 _ st hh v rv
    · exact q1.elim
  · exact q.elim
theorem de_mut (i : Nat) (hm : MtD X id g) (slot : PySem.Slot "list" name id) (hty : typeOf (.builtin id) = pure (.type "method_descriptor")) (ha : DA X W (e :: es) fa)
    (hN : X.N[i]? = some x := by rfl) (hv : Vis X.env.scope x := by first | exact Or.inl rfl | exact Or.inr (Or.inl rfl) | exact Or.inr (Or.inr rfl)) (hd : (x == ("__debug__" : Str)) = false := by decide) (hcd : (x == ("__classdict__" : Str)) = false := by decide)
    (hbase : attributeBase (.Name x p) name X.env (eval (.Name x p) X.env) = eval (.Name x p) X.env := by rfl)
    (hfew : ((backTo pos (starEach (e :: es) X.env)).all (fun x => !x.1) && (backToKw pos (keywordEach [] X.env)).all (fun x => x.1.isSome)
      && decide ((e :: es).length + ([] : List Keyword).length + (if ([] : List Keyword).isEmpty then 0 else 1) < 30)) = true := by rfl)
    (hline : (apos.endLine == pos.line) = true := by rfl) (hs : starEach (e :: es) X.env = (false, eval e X.env) :: starEach es X.env := by rfl) (hplain : (backTo pos (starEach es X.env)).any (·.1) = false := by rfl) :
    DE X W (.Call (.Attribute (.Name x p) name apos) (e :: es) [] pos) (eMut i g fa) := by
  obtain ⟨r, hm, hr⟩ := hm
  exact PE.wk (pe_bm PySem.F.plainAttrs_list slot hty hm (pe_var hN hv hd hcd) ha (hbase := hbase) (hfew := hfew) (hline := hline) (hs := hs) (hplain := hplain)) (mut_rd hr)
theorem de_mut0 (i : Nat) (hm : MtD X id g) (slot : PySem.Slot "list" name id) (hty : typeOf (.builtin id) = pure (.type "method_descriptor"))
    (hN : X.N[i]? = some x := by rfl) (hv : Vis X.env.scope x := by first | exact Or.inl rfl | exact Or.inr (Or.inl rfl) | exact Or.inr (Or.inr rfl)) (hd : (x == ("__debug__" : Str)) = false := by decide) (hcd : (x == ("__classdict__" : Str)) = false := by decide)
    (hbase : attributeBase (.Name x p) name X.env (eval (.Name x p) X.env) = eval (.Name x p) X.env := by rfl) (hline : (apos.endLine == pos.line) = true := by rfl) :
    DE X W (.Call (.Attribute (.Name x p) name apos) [] [] pos) (eMut i g aNil) := by
  obtain ⟨r, hm, hr⟩ := hm
  refine PE.wk (pe_bm0 PySem.F.plainAttrs_list slot hty hm (pe_var hN hv hd hcd) (hbase := hbase) (hline := hline)) fun σ H Q q => ?_
  obtain ⟨v, e2, ty, q2⟩ := mut_rd hr σ H Q q
  obtain ⟨S, Z, F, h, q3⟩ := q2
  exact ⟨v, e2, ty, q3 _ (Stp.refl _) h [] .nil⟩
def appD : List D → List D → Option (D × List D) := fun ds as => match as with
  | [a] => if ds.length < sizeLine then some (.none, ds ++ [a]) else none
  | _ => none
theorem md_append : MtD X "list.append" appD := by
  refine ⟨_, mt_append, fun p vs us ds as d ds' K c Q e hp rv ru q => ?_⟩
  unfold appD at e
  split at e
  · split at e
    · rename_i hl
      cases e
      obtain ⟨v, rfl, r⟩ := ru.one
      exact ⟨p, vs, v, rfl, rfl, hp, by rw [rv.length]; exact hl, q _ _ .non (rv.append (.cons r .nil))⟩
    · cases e
  · cases e
def popD : List D → List D → Option (D × List D) := fun ds as => match as with
  | [] => (ds[ds.length - 1]?).map fun d => (d, ds.dropLast)
  | _ => none
theorem RpA.dropLast {K : PySem.W.Frag} {Z : Hp} {vs : List V} {ds : List D} (h : RpA K Z vs ds) : RpA K Z vs.dropLast ds.dropLast := by
  rw [List.dropLast_eq_take, List.dropLast_eq_take, h.length]
  exact h.take _
theorem md_pop : MtD X "list.pop" popD := by
  refine ⟨_, mt_pop, fun p vs us ds as d ds' K c Q e hp rv ru q => ?_⟩
  unfold popD at e
  split at e
  · obtain ⟨d', e1, e2⟩ := Option.map_eq_some_iff.mp e
    cases e2
    cases ru
    obtain ⟨v, e3, r⟩ := rv.get e1
    exact ⟨p, vs, v, rfl, rfl, hp, by rw [rv.length]; exact e3, q _ _ r rv.dropLast⟩
  · cases e
def popAtD : List D → List D → Option (D × List D) := fun ds as => match as with
  | [.int i] => if -(2 ^ 63) ≤ i ∧ i < 2 ^ 63 then (seqIndex? i ds.length).bind fun k => (ds[k]?).map fun d => (d, ds.eraseIdx k) else none
  | _ => none
theorem md_popAt : MtD X "list.pop" popAtD := by
  refine ⟨_, mt_popAt, fun p vs us ds as d ds' K c Q e hp rv ru q => ?_⟩
  unfold popAtD at e
  split at e
  · split at e
    · rename_i hi
      obtain ⟨k, e1, e2⟩ := Option.bind_eq_some_iff.mp e
      obtain ⟨d', e3, e4⟩ := Option.map_eq_some_iff.mp e2
      cases e4
      cases ru.i1
      obtain ⟨v, e5, r⟩ := rv.get e3
      exact ⟨p, vs, _, k, v, rfl, rfl, hp, hi.1, hi.2, by rw [rv.length]; exact e1, e5, q _ _ r (rv.eraseIdx k)⟩
    · cases e
  · cases e
/-- xs.extend(ys): ys a list that stays -/
def extD : List D → List D → Option (D × List D) := fun ds as => match as with
  | [.list es] => if ds.length + es.length ≤ sizeLine then some (.none, ds ++ es) else none
  | _ => none
theorem de_ext (i : Nat) (ha : DA X W [e] fa)
    (hN : X.N[i]? = some x := by rfl) (hv : Vis X.env.scope x := by first | exact Or.inl rfl | exact Or.inr (Or.inl rfl) | exact Or.inr (Or.inr rfl)) (hd : (x == ("__debug__" : Str)) = false := by decide) (hcd : (x == ("__classdict__" : Str)) = false := by decide)
    (hbase : attributeBase (.Name x p) "extend" X.env (eval (.Name x p) X.env) = eval (.Name x p) X.env := by rfl)
    (hfew : ((backTo pos (starEach [e] X.env)).all (fun x => !x.1) && (backToKw pos (keywordEach [] X.env)).all (fun x => x.1.isSome)
      && decide ([e].length + ([] : List Keyword).length + (if ([] : List Keyword).isEmpty then 0 else 1) < 30)) = true := by rfl)
    (hline : (apos.endLine == pos.line) = true := by rfl) (hs : starEach [e] X.env = (false, eval e X.env) :: starEach [] X.env := by rfl) (hplain : (backTo pos (starEach [] X.env)).any (·.1) = false := by rfl) :
    DE X W (.Call (.Attribute (.Name x p) "extend" apos) [e] [] pos) (eMut i extD fa) := by
  refine PE.wk (pe_bm PySem.F.plainAttrs_list PySem.F.slot_list_extend PySem.F.type_list_extend mt_extend (pe_var hN hv hd hcd) ha (hbase := hbase) (hfew := hfew) (hline := hline) (hs := hs) (hplain := hplain)) fun σ H Q q => ?_
  obtain ⟨S, Z, F, h, q⟩ := q
  unfold eMut at q
  split at q
  · rename_i ds0 e0
    obtain ⟨p0, vs0, e2, e3, _⟩ := h.mutO e0
    refine ⟨.ref p0, e2, .inl ⟨rfl, _, SqL.of e3⟩, S, Z, F, h, (Go.bind q).mono fun as S1 c1 s1 h1 q1 us ru => ?_⟩
    split at q1
    · rename_i ds e1
      obtain ⟨p1, vs1, e4, e5, r1, back⟩ := h1.mutO e1
      rw [e2] at e4
      cases e4
      cases eg : extD ds as with
      | none => simp only [eg] at q1; exact q1.elim
      | some dd =>
        obtain ⟨d, ds'⟩ := dd
        simp only [eg] at q1
        unfold extD at eg
        split at eg
        · split at eg
          · rename_i hl
            cases eg
            obtain ⟨v, rfl, r⟩ := ru.one
            obtain ⟨b, zs, rfl, a1, r2⟩ := r.lstI
            obtain ⟨st, hh⟩ := back _ (vs1 ++ zs) (r1.append r2)
            exact ⟨p0, b, vs1, zs, rfl, rfl, e5, h1.zh _ _ a1, by rw [r1.length, r2.length]; exact hl, q1 _ st hh _ .non⟩
          · cases eg
        · cases eg
    · exact q1.elim
  · exact q.elim
/-- xs[i] = e -/
def setAtD (s : Slot) (k d : D) : Option Slot := match s with
  | .own ds => (match k with
    | .int n => (ixN ds.length n).map fun j => .own (ds.set j d)
    | _ => none)
  | .dic t es => if isKey t k && decide (es.length < sizeLine) then some (.dic t (esPut es k d)) else none
  | _ => none
def sSetIx (i : Nat) (fe fk : EM D) : SM := sOf fe fun d S0 => match slotAt S0 i with
  | some _ => sOf fk (fun k S => match (S[i]?).bind fun s => setAtD s k d with
    | some s' => .nx (S.set i s')
    | none => .bad) S0
  | none => .bad
theorem PSet.or {t t' : TSet} (h : PSet X t) (h' : PSet X t') : PSet X (fun o i v H Q => t o i v H Q ∨ t' o i v H Q) := by
  intro pins s σ H o i v ov iv u Q I ro ri rv q
  rcases q with q | q
  · exact h pins s σ H o i v ov iv u Q I ro ri rv q
  · exact h' pins s σ H o i v ov iv u Q I ro ri rv q
theorem setAt_rd {S : List Slot} {σ : Sg} {c : Cfg} {K : PySem.W.Frag} {i : Nat} {k d : D} {s' : Slot} {p0 : Addr} {y z : V} {Q : Hp → Prop} (h : Holds K S σ c) (e2 : σ[i]? = some (some (V.ref p0))) (e : ((S[i]?).bind fun s => setAtD s k d) = some s') (ry : Rp K c.Z y d) (rz : Rp K c.Z z k)
    (q : ∀ c', Stp c c' → Holds K (S.set i s') σ c' → Q c'.H) : rSetL (.ref p0) z y c.H Q ∨ rSetD (.ref p0) z y c.H Q := by
  obtain ⟨s, e1, e3⟩ := Option.bind_eq_some_iff.mp e
  unfold setAtD at e3
  split at e3
  · rename_i ds
    split at e3
    · rename_i n
      obtain ⟨j, e4, e5⟩ := Option.map_eq_some_iff.mp e3
      subst e5
      obtain ⟨p1, vs1, e6, e7, r1, back⟩ := h.mutO e1
      rw [e2] at e6
      cases e6
      cases rz
      obtain ⟨st, hh⟩ := back _ (vs1.set j y) (r1.set j ry)
      exact .inl ⟨p0, vs1, n, j, rfl, rfl, e7, by rw [r1.length]; exact e4, q _ st hh⟩
    · cases e3
  · rename_i t es
    split at e3
    · rename_i hk
      rw [Bool.and_eq_true] at hk
      cases e3
      obtain ⟨p1, e6, da, back⟩ := h.mutD e1
      rw [e2] at e6
      cases e6
      obtain ⟨u, g, da'⟩ := DicAt.put h.zh da hk.1 rz ry (of_decide_eq_true hk.2)
      obtain ⟨st, hh⟩ := back _ u da'
      exact .inr ⟨p0, _, rfl, g, q _ st hh⟩
    · cases e3
  · cases e3
theorem ds_setIx (hu : X.A.units + 64 < cLine) (i : Nat) {k v : Expr} {p2 : Pos} {fe fk : EM D} (hv : DE X W v fe) (hk : DE X W k fk)
    (hN : X.N[i]? = some x := by rfl) (hvis : Vis X.env.scope x := by first | exact Or.inl rfl | exact Or.inr (Or.inl rfl) | exact Or.inr (Or.inr rfl)) (hd : (x == ("__debug__" : Str)) = false := by decide) (hcd : (x == ("__classdict__" : Str)) = false := by decide)
    (ha : ∀ v, assign (.Subscript (.Name x p) k p2) X.env v = (do
      let ov ← holding [v] (eval (.Name x p) X.env)
      let iv ← holding [v, ov] (eval k X.env)
      standAt p2
      holding [v, ov, iv] (setItem ov iv v)
      release [v, ov, iv] []) := by intro _; rfl)
    (hs : swapsWithSole [.Subscript (.Name x p) k p2] v pos.line X.env = pure false := by rfl) (hw : swappedStores [.Subscript (.Name x p) k p2] v X.env = pure none := by rfl)
    (h1 : (assignEach [.Subscript (.Name x p) k p2] X.env).map (·.2) = [assign (.Subscript (.Name x p) k p2) X.env] := by rfl) :
    DS X W (.Assign [.Subscript (.Name x p) k p2] v pos) (sSetIx i fe fk) := by
  refine PS.wk (ps_asg hv (pg_sub (pe_var hN hvis hd hcd) hk (PSet.or set_list (set_dict (by omega))) ha) hs hw h1) fun Q σ H q => ?_
  obtain ⟨S, Z, F, h, q⟩ := q
  refine ⟨S, Z, F, h, Go.toS q fun d S1 c1 s1 h1 q1 y ry => ?_⟩
  split at q1
  · rename_i d0 e0
    obtain ⟨p0, e2, _⟩ := h1.loAt e0
    refine ⟨.ref p0, e2, S1, c1.Z, c1.F, h1, Go.toS q1 fun kk S2 c2 s2 h2 q2 z rz => ?_⟩
    split at q2
    · rename_i s' e1
      exact setAt_rd h2 e2 e1 (ry.mono s2.z) rz fun c' st hh => q2 σ c' st hh
    · exact q2.elim
  · exact q1.elim
end
end FW

/-! FwI: what a text's defs lean on, universal walks, isinstance, names of the module. -/
namespace FW
open PySem PySem.Spec L2
open PyProof.Rows hiding St
/-- the built-in names that the module does not hide -/
structure Blt (mg : Str → Option Value) : Prop where
  len : mg "len" = none
  range : mg "range" = none
  sum : mg "sum" = none
  tuple : mg "tuple" = none
  list : mg "list" = none
  int : mg "int" = none
  isinstance : mg "isinstance" = none
  any : mg "any" = none
  all : mg "all" = none
  abs : mg "abs" = none
  min : mg "min" = none
  max : mg "max" = none
  sorted : mg "sorted" = none
  set : mg "set" = none
  dict : mg "dict" = none
  str : mg "str" = none
  bool : mg "bool" = none
  zip : mg "zip" = none
theorem bt_len : bootBuiltins "len" = some (.builtin "len") := by decide +kernel
theorem bt_sum : bootBuiltins "sum" = some (.builtin "sum") := by decide +kernel
theorem bt_any : bootBuiltins "any" = some (.builtin "any") := by decide +kernel
theorem bt_all : bootBuiltins "all" = some (.builtin "all") := by decide +kernel
theorem bt_abs : bootBuiltins "abs" = some (.builtin "abs") := by decide +kernel
theorem bt_min : bootBuiltins "min" = some (.builtin "min") := by decide +kernel
theorem bt_max : bootBuiltins "max" = some (.builtin "max") := by decide +kernel
theorem bt_sorted : bootBuiltins "sorted" = some (.builtin "sorted") := by decide +kernel
theorem bt_isinstance : bootBuiltins "isinstance" = some (.builtin "isinstance") := by decide +kernel
theorem bt_tuple : bootBuiltins "tuple" = some (.type "tuple") := by decide +kernel
theorem bt_list : bootBuiltins "list" = some (.type "list") := by decide +kernel
theorem bt_int : bootBuiltins "int" = some (.type "int") := by decide +kernel
theorem bt_bool : bootBuiltins "bool" = some (.type "bool") := by decide +kernel
theorem bt_str : bootBuiltins "str" = some (.type "str") := by decide +kernel
theorem bt_set : bootBuiltins "set" = some (.type "set") := by decide +kernel
theorem bt_dict : bootBuiltins "dict" = some (.type "dict") := by decide +kernel
/-- a def that may be called by its name -/
def Cal (P : Program) (w : World) (K : PySem.W.Frag) (mg : Str → Option Value) (base : Heap) (CX : CXT) (x : Str) (ps : List Str) (k : Nat) (sp : Sp) : Prop :=
  ∃ f fd, FnOk P w K mg base CX k f fd ps sp ∧ mg x = some (.ref f) ∧ PySem.W.keepIn K (.ref f) = true ∧ L2.Binds K fd ps []
theorem Cal.mk' {P : Program} {w : World} {K : PySem.W.Frag} {mg : Str → Option Value} {base : Heap} {CX : CXT} {x : Str} {ps : List Str} {k : Nat} {sp : Sp} {f : Addr} {fd : FuncData} {qual : Str} {st : Stmt} (F : Fun K x qual st f fd) (o : FnOk P w K mg base CX k f fd ps sp) (g : mg x = some (.ref f)) (b : L2.Binds K fd ps []) : Cal P w K mg base CX x ps k sp :=
  ⟨f, fd, o, g, F.kp, b⟩
section
variable {X : Cx} {W : WX} {pos p : Pos} {x : Str} {e : Expr} {es : List Expr}
theorem de_fn {k m : Nat} {ps : List Str} {g : List D → Rs} {fa : EM (List D)} (C : Cal X.prog X.w X.K X.mg X.base CX0 x ps k (spD0 X.K m g)) (hr : Room k X.A) (ha : DA X W (e :: es) fa) (hg : Gl X x := by rfl) (hdb : (x == ("__debug__" : Str)) = false := by decide)
    (he : starEach (e :: es) X.env = (false, eval e X.env) :: starEach es X.env := by rfl) (hpl : (backTo pos (starEach es X.env)).any (·.1) = false := by rfl) : DE X W (.Call (.Name x p) (e :: es) [] pos) (eCall m g fa) := by
  obtain ⟨f, fd, F, hm, hk, hb⟩ := C
  exact de_call F hr hg hm hk hb ha hdb he hpl
theorem de_fnX {k m : Nat} {ps : List Str} {g : List D → Rs} {fa : EM (List D)} (tk : Takes X W) (C : Cal X.prog X.w X.K X.mg X.base (L2.CX X.prog X.w) x ps k (spDX X.K X.mg m g)) (hr : Room k X.A) (ha : DA X W (e :: es) fa) (hg : Gl X x := by rfl) (hdb : (x == ("__debug__" : Str)) = false := by decide)
    (he : starEach (e :: es) X.env = (false, eval e X.env) :: starEach es X.env := by rfl) (hpl : (backTo pos (starEach es X.env)).any (·.1) = false := by rfl) : DE X W (.Call (.Name x p) (e :: es) [] pos) (eCallX m g fa) := by
  obtain ⟨f, fd, F, hm, hk, hb⟩ := C
  exact de_callX tk F hr hg hm hk hb ha hdb he hpl
theorem de_fnW (i : Nat) {k m : Nat} {ps : List Str} {g : Addr → Int → List Int → List D → Rw} {fa : EM (List D)} {y : Str} {p2 : Pos} (C : Cal X.prog X.w X.K X.mg X.base CX0 x ps k (spW X.K m g)) (hr : Room k X.A) (ha : DA X W es fa) (hg : Gl X x := by rfl)
    (hN : X.N[i]? = some y := by rfl) (hv : Vis X.env.scope y := by first | exact Or.inl rfl | exact Or.inr (Or.inl rfl) | exact Or.inr (Or.inr rfl)) (hd : (y == ("__debug__" : Str)) = false := by decide) (hcd : (y == ("__classdict__" : Str)) = false := by decide)
    (hs : starEach (.Name y p2 :: es) X.env = (false, eval (.Name y p2) X.env) :: starEach es X.env := by rfl) (hdb : (x == ("__debug__" : Str)) = false := by decide) (hpl : (backTo pos (starEach es X.env)).any (·.1) = false := by rfl) :
    DE X W (.Call (.Name x p) (.Name y p2 :: es) [] pos) (eCallW i m g fa) := by
  obtain ⟨f, fd, F, hm, hk, hb⟩ := C
  exact de_callW i F hr hg hm hk hb ha hN hv hd hcd hs hdb hpl
/-- a number of the module's top -/
theorem de_gint {n : Int} (h : ∃ t, X.mg x = some (.int n t)) (hg : Gl X x := by rfl) (hd : (x == ("__debug__" : Str)) = false := by decide) : DE X W (.Name x pos) (eC (.int n)) := by
  obtain ⟨t, h⟩ := h
  exact de_c (pe_glob (v := .int n) hg h ⟨t, rfl⟩ hd) fun _ => .int n
/-- a tuple of the module's top, to the right of a comparison -/
def OpDK (X : Cx) (W : WX) (f : Value → Value → Sem Value) (g : D → D → Option D) : Prop := ∃ r : R2, OpR X f r ∧
  ∀ (x y : V) (a b d : D) (S : List Slot) (σ : Sg) (c : Cfg) (Q : VK), g a b = some d → Holds X.K S σ c → Lo X.K c x a → Dp X.K c.H y b → noDict b = true →
    (∀ c' v, Stp c c' → Holds X.K S σ c' → Rp X.K c'.Z v d → Q v c'.H) → r x y c.H Q
theorem ok_in (hu : X.A.units + 64 < cLine) : OpDK X W (compareOp .In) inD := by
  refine ⟨_, op_inP, fun x y a b d S σ c Q e hh ra rb nb q => ?_⟩
  unfold inD at e
  split at e
  · simp [noDict] at nb
  obtain ⟨ds, e1, e2⟩ := Option.bind_eq_some_iff.mp e
  split at e2
  · rename_i hs
    obtain ⟨n1, n2, hs⟩ := inOk_get hs
    cases e2
    refine ⟨a, ds, ra.dp hh.zh n1, ?_, noDict_plain a n1, noDictA_plain ds n2, shal_in hs hu, q c _ (Stp.refl _) hh (.bl _)⟩
    unfold itemsD at e1
    split at e1
    · cases e1; exact .inl rb
    · cases e1; exact .inr rb
    · cases e1
  · cases e2
theorem ok_nin (hu : X.A.units + 64 < cLine) : OpDK X W (compareOp .NotIn) ninD := by
  refine ⟨_, op_notInP, fun x y a b d S σ c Q e hh ra rb nb q => ?_⟩
  unfold ninD at e
  split at e
  · simp [noDict] at nb
  obtain ⟨ds, e1, e2⟩ := Option.bind_eq_some_iff.mp e
  split at e2
  · rename_i hs
    obtain ⟨n1, n2, hs⟩ := inOk_get hs
    cases e2
    refine ⟨a, ds, ra.dp hh.zh n1, ?_, noDict_plain a n1, noDictA_plain ds n2, shal_in hs hu, q c _ (Stp.refl _) hh (.bl _)⟩
    unfold itemsD at e1
    split at e1
    · cases e1; exact .inl rb
    · cases e1; exact .inr rb
    · cases e1
  · cases e2
theorem de_cmpK {op : CmpOp} {g : D → D → Option D} {ea : Expr} {fa : EM D} {px : Pos} {b : D} (ho : OpDK X W (compareOp op) g) (ha : DE X W ea fa) (h : ∃ a, X.mg x = some (.ref a) ∧ ∀ Z, Dp X.K Z (.ref a) b) (nb : noDict b = true)
    (hm : behindInMarks op (.Name x px) = false := by rfl) (hg : Gl X x := by rfl) (hd : (x == ("__debug__" : Str)) = false := by decide) : DE X W (.Compare ea [op] [.Name x px] pos) (eBin g fa (eC b)) := by
  obtain ⟨r, ho, hr⟩ := ho
  obtain ⟨p, h1, h2⟩ := h
  refine PE.wk (pe_cmpR ho ha (pe_glob (v := .ref p) hg h1 rfl hd) hm) fun σ H Q q => ?_
  obtain ⟨S, Z, F, hh, q⟩ := q
  refine ⟨S, Z, F, hh, (Go.bind q).mono fun a S1 c1 s1 h1' q1 v rv => ?_⟩
  obtain ⟨d, e, k⟩ := Go.opt (show Go _ σ c1 (eOpt (g a b) S1) _ from q1)
  exact hr v _ a b d S1 σ c1 Q e h1' (.z rv) (h2 _) nb fun c' v st h' rv => k c' st h' v rv
theorem dt_cmpK {op : CmpOp} {g : D → D → Option D} {ea : Expr} {fa : EM D} {px : Pos} {b : D} (ho : OpDK X W (compareOp op) g) (ha : DE X W ea fa) (h : ∃ a, X.mg x = some (.ref a) ∧ ∀ Z, Dp X.K Z (.ref a) b) (nb : noDict b = true)
    (hm : behindInMarks op (.Name x px) = false := by rfl) (hg : Gl X x := by rfl) (hd : (x == ("__debug__" : Str)) = false := by decide) : DT X W (.Compare ea [op] [.Name x px] pos) (bOf (eBin g fa (eC b))) := by
  obtain ⟨r, ho, hr⟩ := ho
  obtain ⟨p, h1, h2⟩ := h
  refine PT.wk (pt_cmpR ho ha (pe_glob (v := .ref p) hg h1 rfl hd) hm) fun σ H Q q => ?_
  obtain ⟨S, Z, F, hh, q⟩ := bof_rd σ H Q q
  refine ⟨S, Z, F, hh, (Go.bind q).mono fun a S1 c1 s1 h1' q1 v rv => ?_⟩
  obtain ⟨d, e, k⟩ := Go.opt (show Go _ σ c1 (eOpt (g a b) S1) _ from q1)
  exact hr v _ a b d S1 σ c1 _ e h1' (.z rv) (h2 _) nb fun c' v st h' rv => k c' st h' v rv
/-! ### what is walked, whatever it is -/
def signs (z : Str) : List D := z.cps.toList.map fun c => PyData.str ⟨#[c]⟩
def walkD : D → Option (List D)
  | .list ds => some ds
  | .tuple ds => some ds
  | _ => none
def iS (f : EM D) : EM (List D) := eBind f fun d => eOpt (walkD d)
theorem di_seq {tg : Expr} {f : EM D} (he : DE X W e f) : DI X W tg e (iS f) := by
  refine ⟨fun pins s σ H R I q => ?_⟩
  obtain ⟨S, Z, F, h, q⟩ := q
  unfold iS eBind at q
  cases ef : f S with
  | bad => rw [ef] at q; exact q.elim
  | ex y S' => 
    rw [ef] at q
    refine (di_list he).run pins s σ H R I ⟨S, Z, F, h, ?_⟩
    unfold iL eBind
    rw [ef]
    exact q
  | ok d S' =>
    rw [ef] at q
    cases d with
    | list ds =>
      refine (di_list he).run pins s σ H R I ⟨S, Z, F, h, ?_⟩
      unfold iL eBind
      rw [ef]
      exact q
    | tuple ds =>
      refine (di_tup he).run pins s σ H R I ⟨S, Z, F, h, ?_⟩
      unfold iT eBind
      rw [ef]
      exact q
    | _ => exact q.elim
/-- range of three -/
def rng3 : List D → Option (List D)
  | [.int i, .int j, .int k] => if k ≠ 0 ∧ k.natAbs < 1073741824 ∧ Builtin.Range.small i j k = true ∧ 0 ≤ Builtin.Range.rangeSize i j k then some (intsC i k (Builtin.Range.rangeSize i j k).toNat) else none
  | _ => none
def iR3 (f : EM (List D)) : EM (List D) := eBind f fun ds => eOpt (rng3 ds)
theorem di_range3 {tg a b c : Expr} {f : EM (List D)} (hm : X.mg "range" = none) (ha : DA X W [a, b, c] f) (hg : Gl X "range" := by rfl)
    (hs : starEach [a, b, c] X.env = (false, eval a X.env) :: starEach [b, c] X.env := by rfl) (hpl : (backTo pos (starEach [b, c] X.env)).any (·.1) = false := by rfl) : DI X W tg (.Call (.Name "range" p) [a, b, c] [] pos) (iR3 f) := by
  refine PI.wk (pi_range3 hg hm ha hs hpl) fun σ H R q => ?_
  obtain ⟨S, Z, F, h, q⟩ := q
  refine ⟨S, Z, F, h, (Go.bind q).mono fun ds S1 c1 s1 h1 q1 vs rs => ?_⟩
  obtain ⟨es, e, k⟩ := Go.opt q1
  unfold rng3 at e
  split at e
  · split at e
    · rename_i i j k' hc
      cases e
      exact ⟨i, j, k', (Builtin.Range.rangeSize i j k').toNat, rs.i3, ⟨hc.1, hc.2.1, hc.2.2.1, (Int.toNat_of_nonneg hc.2.2.2).symm⟩, k c1 (Stp.refl _) h1 _ (ItOk.rngC _ _ i k' _)⟩
    · cases e
  · cases e
/-! ### isinstance -/
def tyName : D → String
  | .none => "NoneType"
  | .bool _ => "bool"
  | .int _ => "int"
  | .str _ => "str"
  | .list _ => "list"
  | .tuple _ => "tuple"
  | .dict _ => "dict"
def notDict : D → Bool
  | .dict _ => false
  | _ => true
def isiD (T : String) (d : D) : Option D := if notDict d then (kitB (tyName d) T).map PyData.bool else none
theorem Rp.ty {K : PySem.W.Frag} {Z H : Hp} (sm : Same Z H) {v : V} {d : D} (h : Rp K Z v d) (n : notDict d = true) : TyX K H v (.type (tyName d)) := by
  cases h with
  | non => exact .base .non
  | bl b => exact .base (.bl b)
  | int i => exact .base (.int i)
  | str x => exact .base (.str x)
  | lst h1 h2 => exact .base (.lst (sm _ _ h1))
  | tup h1 h2 => exact .base (.tup (sm _ _ h1))
  | dk => cases n
  | dt => cases n
  | ob => cases n
theorem de_isi {T : String} {y : Str} {p2 : Pos} {f : EM D} (he : DE X W e f) (hb : X.mg "isinstance" = none) (hT : X.mg y = none) (bt : bootBuiltins y = some (.type T)) (hg : Gl X "isinstance" := by rfl) (hgT : Gl X y := by rfl)
    (hn : y ≠ "__name__" := by decide) (hd : (y == ("__debug__" : Str)) = false := by decide) (hs1 : starEach [.Name y p2] X.env = (false, eval (.Name y p2) X.env) :: starEach [] X.env := by rfl)
    (hs : starEach [e, .Name y p2] X.env = (false, eval e X.env) :: starEach [.Name y p2] X.env := by rfl) (hpl : (backTo pos (starEach [.Name y p2] X.env)).any (·.1) = false := by rfl) :
    DE X W (.Call (.Name "isinstance" p) [e, .Name y p2] [] pos) (eUn (isiD T) f) := by
  refine PE.wk (pe_callB call_isi hg hb bt_isinstance (pa_cons he (pa_cons (pe_bltn (v := .ty T) hgT hT bt rfl hn hd) pa_nil hs1) hs) (he := hs) (hpl := hpl)) fun σ H Q q => ?_
  obtain ⟨S, Z, F, h, q⟩ := q
  refine ⟨S, Z, F, h, (Go.bind q).mono fun a S1 c1 s1 h1 q1 v rv => ?_⟩
  obtain ⟨d, e, k⟩ := Go.opt q1
  unfold isiD at e
  split at e
  rotate_left
  · cases e
  rename_i nd
  obtain ⟨b, e1, e2⟩ := Option.map_eq_some_iff.mp e
  subst e2
  exact ⟨v, .ty T, _, .type T, b, rfl, .ty T, rv.ty h1.zh nd, kit_ty e1, k c1 (Stp.refl _) h1 _ (.bl b)⟩
end
end FW

set_option maxHeartbeats 4000000
/-! FwJ: products of numbers and sequences, ranges as lists. -/
namespace FW
open PySem PySem.Spec L2
open PyProof.Rows hiding St
theorem tmul_same (l : Addr) (items : Array Value) (n : Nat) (dd : Option Addr) (sl : Array (Option Value)) (x : Int) (u : Tok) (a0 : (decide (x < -(2 ^ 63)) || decide (x ≥ 2 ^ 63)) = false) (a1 : (items.isEmpty || x == 1) = true) :
    Meets (Builtin.«tuple.__mul__» ⟨[.ref l, .int x u], []⟩) (fun _ R s => s.heap.get? l = some { cls := .type "tuple", dict := dd, data := .seq items n, slots := sl } ∧ R (.ok (.ret (Value.ref l))) s) :=
  .of_wp fun prog w A R s h => by
    obtain ⟨hp, g, d, tk, os⟩ := s
    obtain ⟨hl, h⟩ := h
    have f1 := AutoSeq1.idx_int
    wp_walk using wpAny_loadPart' hl
    refine wpAny_ite_false (decide_eq_false (by rw [a0]; exact Bool.false_ne_true)) ?_
    wp_walk using wpAny_loadPart' hl
    exact ⟨_, rfl, h⟩
theorem tmul_none (l : Addr) (items : Array Value) (n : Nat) (dd : Option Addr) (sl : Array (Option Value)) (x : Int) (u : Tok) (a0 : (decide (x < -(2 ^ 63)) || decide (x ≥ 2 ^ 63)) = false) (a1 : (items.isEmpty || x == 1) = false) (a2 : (decide (x ≤ 0) || items.isEmpty) = true) :
    Meets (Builtin.«tuple.__mul__» ⟨[.ref l, .int x u], []⟩) (fun _ R s => s.heap.get? l = some { cls := .type "tuple", dict := dd, data := .seq items n, slots := sl } ∧
      R (.ok (.ret (Value.ref s.heap.objs.size))) { s with heap := s.heap.push { cls := Value.type "tuple", data := Data.seq #[] }, toks := s.toks }) :=
  .of_wp fun prog w A R s h => by
    obtain ⟨hp, g, d, tk, os⟩ := s
    obtain ⟨hl, h⟩ := h
    have f1 := AutoSeq1.idx_int
    wp_walk using wpAny_loadPart' hl
    refine wpAny_ite_false (decide_eq_false (by rw [a0]; exact Bool.false_ne_true)) ?_
    wp_walk using wpAny_loadPart' hl
    exact ⟨_, rfl, h⟩
section
variable {X : Cx} {W : WX} {pos p : Pos}
/-- tuple * number, any number within the machine's line -/
def rRepA (K : PySem.W.Frag) : R2 := fun x y H Q => ∃ l k xs, x = .ref l ∧ y = .int k ∧ SqT K H l xs ∧ -1000 ≤ k ∧ k ≤ 1000 ∧ xs.length ≤ 1000 ∧
  (xs = [] ∨ k = 1 → Q (.ref l) H) ∧ (¬ (xs = [] ∨ k = 1) → ∀ p, H p = none → Q (.ref p) (upd H p (.tup (List.replicate k.toNat xs).flatten)))
theorem op_repA : OpR X (binaryOp .Mult) (rRepA X.K) := by
  intro pins s σ H x y v u Q I rx ry h
  obtain ⟨l, k, xs, rfl, rfl, hT, h1, h2, hz, q1, q2⟩ := h
  by_cases hbig : xs ≠ [] ∧ 2 ≤ k
  · exact op_repT pins s σ H _ _ v u Q I rx ry ⟨l, k, xs, rfl, rfl, hT, hbig.1, hbig.2, h2, hz, q2 (by rintro (z | z); exact hbig.1 z; omega)⟩
  · cases rx
    obtain ⟨t, rfl⟩ := ry
    obtain ⟨its, r, ⟨⟨cls, dd, data, sl⟩, ho, hc, n, hd⟩, hs⟩ := I.tuple hT
    simp only at hc hd
    subst hc hd
    have hle := r.length
    have b0 : (decide (k < -(2 ^ 63)) || decide (k ≥ 2 ^ 63)) = false := by
      rw [decide_eq_false (by omega), decide_eq_false (by omega)] <;> rfl
    have hem : its.toArray.isEmpty = decide (xs = []) := by
      cases its with
      | nil => cases r; rfl
      | cons a b => cases r; rfl
    by_cases hw : xs = [] ∨ k = 1
    · have b1 : (its.toArray.isEmpty || k == 1) = true := by
        rw [hem]
        rcases hw with z | z
        · rw [decide_eq_true z]; rfl
        · rw [z]; simp
      refine wpAny_binaryOp_repeat_ref (T := "tuple") (U := "int") (by decide) ⟨_, ho, rfl⟩ (fun s' => typeIs_int s' k t) noFill_tuple_mul F.fills_int_mul F.slot_int_rmul repeat_tuple F.slot_int_index.lookup
        (call_meets F.slot_int_rmul (typeIs_int s k t) F.entry_int_rmul (F.args_int_rmul_2 _ _) (int_rmul_tuple k t l its.toArray n dd sl)
          ⟨ho, rfl, ⟨_, ho, rfl⟩, call_meets F.slot_tuple_mul ⟨_, ho, rfl⟩ F.entry_tuple_mul (F.args_tuple_mul_2 _ _) (tmul_same l its.toArray n dd sl k t b0 b1) ⟨ho, ?_⟩⟩)
      exact ⟨.ref l, H, I, rfl, q1 hw⟩
    · have hk : k ≤ 0 := by
        rcases Int.lt_or_le 0 k with z | z
        · exfalso
          refine hbig ⟨fun e => hw (.inl e), ?_⟩
          have : k ≠ 1 := fun e => hw (.inr e)
          omega
        · exact z
      have b1 : (its.toArray.isEmpty || k == 1) = false := by
        rw [hem, decide_eq_false fun e => hw (.inl e), Bool.false_or]
        exact beq_eq_false_iff_ne.mpr (by omega)
      have b2 : (decide (k ≤ 0) || its.toArray.isEmpty) = true := by
        rw [decide_eq_true hk]
        rfl
      refine wpAny_binaryOp_repeat_ref (T := "tuple") (U := "int") (by decide) ⟨_, ho, rfl⟩ (fun s' => typeIs_int s' k t) noFill_tuple_mul F.fills_int_mul F.slot_int_rmul repeat_tuple F.slot_int_index.lookup
        (call_meets F.slot_int_rmul (typeIs_int s k t) F.entry_int_rmul (F.args_int_rmul_2 _ _) (int_rmul_tuple k t l its.toArray n dd sl)
          ⟨ho, rfl, ⟨_, ho, rfl⟩, call_meets F.slot_tuple_mul ⟨_, ho, rfl⟩ F.entry_tuple_mul (F.args_tuple_mul_2 _ _) (tmul_none l its.toArray n dd sl k t b0 b1 b2) ⟨ho, ?_⟩⟩)
      have z := q2 hw s.heap.objs.size (I.hok.fresh (Nat.le_refl _))
      have e0 : k.toNat = 0 := by omega
      rw [e0] at z
      exact ⟨.ref s.heap.objs.size, _, I.laid (t' := s.toks) (o := .tup []) (fun b ob q => Heap.get?_push_of_some _ q) (Nat.le_refl _) ⟨Nat.zero_le _, [], .nil, IsTup.new _ _⟩, rfl, z⟩
def mulD : D → D → Option D
  | .int i, .int j => if (-(2 ^ 64) < i ∧ i < 2 ^ 64) ∨ (-(2 ^ 64) < j ∧ j < 2 ^ 64) then some (.int (i * j)) else none
  | .tuple xs, .int k => if -1000 ≤ k ∧ k ≤ 1000 ∧ xs.length ≤ 1000 then some (.tuple (List.replicate k.toNat xs).flatten) else none
  | .list xs, .int k => if -(2 ^ 63) ≤ k ∧ k < 2 ^ 63 ∧ xs.length * k.toNat ≤ sizeLine then some (.list (List.replicate k.toNat xs).flatten) else none
  | _, _ => none
theorem od_mul : OpD X W (binaryOp .Mult) mulD := by
  refine ⟨_, (op_mul.or op_repA).or op_rep, fun x y a b d S σ c Q e hh ra rb q => ?_⟩
  unfold mulD at e
  split at e
  · split at e
    · rename_i hc
      cases e
      cases ra.intI
      cases rb.intI
      exact .inl (.inl ⟨_, _, rfl, rfl, hc, q c _ (Stp.refl _) hh (.int _)⟩)
    · cases e
  · split at e
    · rename_i hc
      cases e
      cases rb.intI
      have ra' := ra.tupZ
      obtain ⟨p, xs, rfl, s1, r1⟩ := ra.tupI
      refine .inl (.inr ⟨p, _, xs, rfl, rfl, sameT hh.zh s1, hc.1, hc.2.1, by rw [r1.length]; exact hc.2.2, fun hw => ?_, fun hw pn hp => ?_⟩)
      · refine q c _ (Stp.refl _) hh ?_
        rcases hw with z | z
        · have := (r1.nil_iff).mp z
          subst this
          simpa using ra'
        · subst z
          simpa using ra'
      · obtain ⟨st, h2, r⟩ := hh.layT hp (r1.rep _)
        exact q _ _ st h2 r
    · cases e
  · split at e
    · rename_i hc
      cases e
      cases rb.intI
      obtain ⟨p, xs, rfl, s1, r1⟩ := ra.lstI hh.zh
      refine .inr ⟨p, _, xs, rfl, rfl, s1, hc.1, hc.2.1, by rw [r1.length]; exact hc.2.2, fun pn hp => ?_⟩
      obtain ⟨st, h2, r⟩ := hh.layL hp (r1.rep _)
      exact q _ _ st h2 r
    · cases e
  · cases e
/-- a fresh list by an operation: [..] * n -/
def eBinF (g : D → D → Option (List D)) (fa fb : EM D) : EM (List D) := eBind fa fun a => eBind fb fun b => eOpt (g a b)
def repF : D → D → Option (List D)
  | .list xs, .int k => if -(2 ^ 63) ≤ k ∧ k < 2 ^ 63 ∧ xs.length * k.toNat ≤ sizeLine then some (List.replicate k.toNat xs).flatten else none
  | _, _ => none
theorem df_rep {ea eb : Expr} {fa fb : EM D} (ha : DE X W ea fa) (hb : DL X W eb fb) : DF X W (.BinOp ea .Mult eb pos) (eBinF repF fa fb) := by
  refine PE.wk (pe_op op_rep ha hb) fun σ H Q q => ?_
  obtain ⟨S, Z, F, h, q⟩ := q
  refine ⟨S, Z, F, h, (Go.bind q).mono fun a S1 c1 s1 h1 q1 x rx => ?_⟩
  refine ⟨S1, c1.Z, c1.F, h1, (Go.bind q1).mono fun b S2 c2 s2 h2 q2 y ry => ?_⟩
  obtain ⟨d, e, k⟩ := Go.opt q2
  unfold repF at e
  split at e
  · split at e
    · rename_i hc
      cases e
      cases ry.intI
      obtain ⟨p, xs, rfl, a1, r1⟩ := (rx.mono s2.z).lstI
      exact ⟨p, _, xs, rfl, rfl, h2.zh _ _ a1, hc.1, hc.2.1, by rw [r1.length]; exact hc.2.2, fun pn hp => k c2 (Stp.refl _) h2 pn _ hp (r1.rep _)⟩
    · cases e
  · cases e
/-- list(range(..)) -/
def tRgD (G : Gx) (f : EM (Int × Int)) : Sg → Hp → (Int → Int → Hp → Prop) → Prop := fun σ H Q => ∃ S Z F, Holds G.K S σ ⟨Z, H, F⟩ ∧ Go G σ ⟨Z, H, F⟩ (f S) (fun ij _ c' => Q ij.1 ij.2 c'.H)
def rgOk (a b : Int) : Bool := decide (-(2 ^ 62) ≤ a ∧ a < 2 ^ 62 ∧ -(2 ^ 62) ≤ b ∧ b < 2 ^ 62 ∧ (b - a).toNat ≤ 2 ^ 24)
theorem rgOk_ok {a b : Int} (h : rgOk a b = true) : RgOk a b := by
  unfold rgOk at h
  have q : -(2 ^ 62) ≤ a ∧ a < 2 ^ 62 ∧ -(2 ^ 62) ≤ b ∧ b < 2 ^ 62 ∧ (b - a).toNat ≤ 2 ^ 24 := of_decide_eq_true h
  exact q
def lr1 : D → Option (List D)
  | .int j => if rgOk 0 j then some (intsD 0 (j - 0).toNat) else none
  | _ => none
def lr2 : D → D → Option (List D)
  | .int i, .int j => if rgOk i j then some (intsD i (j - i).toNat) else none
  | _, _ => none
theorem rgV_rp (K : PySem.W.Frag) (Z : Hp) (a b : Int) : RpA K Z (rgV a b) (intsD a (b - a).toNat) := by
  have e : intsD a (b - a).toNat = ((List.range (b - a).toNat).map fun i => a + ((i : Nat) : Int)).map PyData.int := by
    unfold intsD
    rw [List.map_map]
    rfl
  have e2 : rgV a b = ((List.range (b - a).toNat).map fun i => a + ((i : Nat) : Int)).map V.int := by
    unfold rgV
    rw [List.map_map]
    rfl
  rw [e, e2]
  exact RpA.ofI _
def eLr1 (f : EM D) : EM (List D) := eBind f fun d => eOpt (lr1 d)
def eLr2 (f g : EM D) : EM (List D) := eBind f fun d => eBind g fun e => eOpt (lr2 d e)
theorem df_lrng1 {a : Expr} {fa : EM D} {p2 pos2 : Pos} (hl : X.mg "list" = none) (hr : X.mg "range" = none) (ha : DE X W a fa) (hc : X.calm = true := by rfl) (hgl : Gl X "list" := by rfl) (hgr : Gl X "range" := by rfl)
    (na : starEach [a] X.env = (false, eval a X.env) :: starEach [] X.env := by rfl) (nb : starEach [.Call (.Name "range" p2) [a] [] pos2] X.env = (false, eval (.Call (.Name "range" p2) [a] [] pos2) X.env) :: starEach [] X.env := by rfl) :
    DF X W (.Call (.Name "list" p) [.Call (.Name "range" p2) [a] [] pos2] [] pos) (eLr1 fa) := by
  refine PE.wk (pe_listRg hc hgl hl (prg_1 hgr hr ha na) nb) fun σ H Q q => ?_
  obtain ⟨S, Z, F, h, q⟩ := q
  refine ⟨S, Z, F, h, (Go.bind q).mono fun d S1 c1 s1 h1 q1 x rx => ?_⟩
  obtain ⟨es, e, k⟩ := Go.opt q1
  unfold lr1 at e
  split at e
  · split at e
    · rename_i hc
      cases e
      cases rx
      exact ⟨_, rfl, rgOk_ok hc, fun pn hp => k c1 (Stp.refl _) h1 pn _ hp (rgV_rp _ _ 0 _)⟩
    · cases e
  · cases e
theorem df_lrng2 {a b : Expr} {fa fb : EM D} {p2 pos2 : Pos} (hl : X.mg "list" = none) (hr : X.mg "range" = none) (ha : DE X W a fa) (hb : DE X W b fb) (hc : X.calm = true := by rfl) (hgl : Gl X "list" := by rfl) (hgr : Gl X "range" := by rfl)
    (na : starEach [a, b] X.env = (false, eval a X.env) :: starEach [b] X.env := by rfl) (na2 : starEach [b] X.env = (false, eval b X.env) :: starEach [] X.env := by rfl) (np : (backTo pos2 (starEach [b] X.env)).any (·.1) = false := by rfl) (nb : starEach [.Call (.Name "range" p2) [a, b] [] pos2] X.env = (false, eval (.Call (.Name "range" p2) [a, b] [] pos2) X.env) :: starEach [] X.env := by rfl) :
    DF X W (.Call (.Name "list" p) [.Call (.Name "range" p2) [a, b] [] pos2] [] pos) (eLr2 fa fb) := by
  refine PE.wk (pe_listRg hc hgl hl (prg_2 hgr hr ha hb na na2 (hp := np)) nb) fun σ H Q q => ?_
  obtain ⟨S, Z, F, h, q⟩ := q
  refine ⟨S, Z, F, h, (Go.bind q).mono fun d S1 c1 s1 h1 q1 x rx => ?_⟩
  refine ⟨S1, c1.Z, c1.F, h1, (Go.bind q1).mono fun d2 S2 c2 s2 h2 q2 y ry => ?_⟩
  obtain ⟨es, e, k⟩ := Go.opt q2
  unfold lr2 at e
  split at e
  · split at e
    · rename_i hc
      cases e
      cases rx
      cases ry
      exact ⟨_, _, rfl, rfl, rgOk_ok hc, fun pn hp => k c2 (Stp.refl _) h2 pn _ hp (rgV_rp _ _ _ _)⟩
    · cases e
  · cases e
/-! ### x += e, a, b, c = x, y, z -/
def addI : D → D → Option D := intOp fun i j => some (i + j)
theorem ip_int {op : Operator} {g : Int → Int → Int} (h : PIp X op (ipI g)) : IpD X op (intOp fun i j => some (g i j)) := by
  refine ⟨_, h, fun x y a b d S σ c Q e hh ra rb q => ?_⟩
  obtain ⟨i, j, k, rfl, rfl, e2, rfl⟩ := intOp_some e
  cases ra
  cases rb
  cases e2
  exact ⟨i, j, rfl, rfl, q c _ (Stp.refl _) hh (.int _)⟩
theorem ip_addD : IpD X .Add addI := ip_int ip_add
theorem ip_subD : IpD X .Sub subD := ip_int ip_sub
def gThree (i j l : Nat) : List D → List Slot → Option (List Slot) := fun ds S => match ds with
  | [a, b, c] => (gN i a S).bind fun S' => (gN j b S').bind fun S'' => gN l c S''
  | _ => none
def sPar3 (i j l : Nat) (f : EM (List D)) : SM := sOf f fun ds S => match gThree i j l ds S with | some S' => .nx S' | none => .bad
theorem ds_par3 (i j l : Nat) {x y z : Str} {a b c : Expr} {f : EM (List D)} {px py pz pt : Pos} {kt k2 pt2} (hc : X.calm = true) (hN : X.N.Nodup) (ha : DA X W [a, b, c] f) (hij : i ≠ j) (hil : i ≠ l) (hjl : j ≠ l) (hi : X.N[i]? = some x := by rfl) (hj : X.N[j]? = some y := by rfl) (hl : X.N[l]? = some z := by rfl)
    (hx : X.env.scope.names.lookup x = some .local := by rfl) (hy : X.env.scope.names.lookup y = some .local := by rfl) (hz : X.env.scope.names.lookup z = some .local := by rfl)
    (hw : swappedStores [.Tuple [.Name x px, .Name y py, .Name z pz] kt pt] (.Tuple [a, b, c] k2 pt2) X.env = pure (some [x, y, z]) := by rfl)
    (hs : swapsWithSole [.Tuple [.Name x px, .Name y py, .Name z pz] kt pt] (.Tuple [a, b, c] k2 pt2) pos.line X.env = pure false := by rfl) :
    DS X W (.Assign [.Tuple [.Name x px, .Name y py, .Name z pz] kt pt] (.Tuple [a, b, c] k2 pt2) pos) (sPar3 i j l f) := by
  refine PS.wk (ps_par3 hc hN hi hj hl hij hil hjl hx hy hz ha hw hs) fun Q σ H q => ?_
  obtain ⟨S, Z, F, h, q⟩ := q
  refine ⟨S, Z, F, h, Go.toS q fun ds S1 c1 s1 h1 q1 vs rs => ?_⟩
  match ds, rs with
  | [], _ => exact q1.elim
  | [_], _ => exact q1.elim
  | [_, _], _ => exact q1.elim
  | [d1, d2, d3], .cons r1 (.cons r2 (.cons r3 .nil)) =>
    refine ⟨_, _, _, rfl, ?_⟩
    cases e : gThree i j l [d1, d2, d3] S1 with
    | none => rw [e] at q1; exact q1.elim
    | some S2 =>
      rw [e] at q1
      have e' : (gN i d1 S1).bind (fun S' => (gN j d2 S').bind fun S'' => gN l d3 S'') = some S2 := e
      obtain ⟨S3, e1, e2⟩ := Option.bind_eq_some_iff.mp e'
      obtain ⟨S4, e3, e4⟩ := Option.bind_eq_some_iff.mp e2
      unfold gN at e1 e3 e4
      split at e1
      · rename_i hl1
        cases e1
        split at e3
        · rename_i hl2
          cases e3
          split at e4
          · rename_i hl3
            cases e4
            obtain ⟨F', st, h'⟩ := h1.setD hl1 r1
            obtain ⟨F2, st2, h2⟩ := h'.setD hl2 r2
            obtain ⟨F3, st3, h3⟩ := h2.setD hl3 r3
            exact q1 _ ⟨c1.Z, c1.H, F3⟩ ((st.trans st2).trans st3) h3
          · cases e4
        · cases e3
      · cases e1
  | _ :: _ :: _ :: _ :: _, _ => exact q1.elim
end
end FW

/-! FwK: the law's own draw of numbers. -/
namespace FW
open PySem PySem.Spec L2
open PyProof.Rows hiding St
/-- what one draw gives: the number, the new count, the new numbers -/
def takeL (k : Int) (ns : List Int) (m : Int) : Option (Int × Int × List Int) :=
  if m < 2 then some (0, k, ns) else
    if 0 < ns.length then (ns[(k % (ns.length : Int)).toNat]?).bind fun cell =>
      if 1000000000000000000 ≤ cell then (if m < 2 ^ 200 then some (cell % m, k, ns.set (k % (ns.length : Int)).toNat (cell / m)) else none)
      else some ((((((cell * 48271 + (k + 1) * 69621) % 2147483647) * 16807 + (k + 1) * 7919) % 1000000007) / 7) % m, k + 1, ns)
    else none
def takeW : Addr → Int → List Int → List D → Rw := fun _ k ns ds => match ds with
  | [.int m] => match takeL k ns m with
    | some (r, k', ns') => .ok (.int r) k' ns'
    | none => .bad
  | _ => .bad
theorem takeW_int {a : Addr} {k : Int} {ns : List Int} {ds : List D} (h : takeW a k ns ds ≠ .bad) : ∃ m, ds = [.int m] := by
  unfold takeW at h
  split at h
  · exact ⟨_, rfl⟩
  · exact absurd rfl h
theorem takeL_lt {k m r k' : Int} {ns ns' : List Int} (h : takeL k ns m = some (r, k', ns')) (hm : 2 ≤ m) : 0 ≤ r ∧ r < m ∧ ns'.length = ns.length := by
  unfold takeL at h
  rw [if_neg (by omega)] at h
  split at h
  · obtain ⟨cell, _, h⟩ := Option.bind_eq_some_iff.mp h
    split at h
    · split at h
      · cases h
        exact ⟨Int.emod_nonneg _ (by omega), Int.emod_lt_of_pos _ (by omega), by simp⟩
      · cases h
    · cases h
      exact ⟨Int.emod_nonneg _ (by omega), Int.emod_lt_of_pos _ (by omega), rfl⟩
  · cases h
/-- the numbers may be drawn from -/
def DrawOk (ns : List Int) : Prop := 0 < ns.length
/-- each draw goes, and is below its bound -/
theorem takeL_ok (k : Int) {ns : List Int} {m : Int} (h : DrawOk ns) (hm : m < 2 ^ 200) : ∃ r k' ns', takeL k ns m = some (r, k', ns') ∧ DrawOk ns' ∧ 0 ≤ r ∧ (m < 2 → r = 0) ∧ (1 ≤ m → r < m) := by
  unfold takeL
  by_cases h2 : m < 2
  · exact ⟨0, k, ns, by rw [if_pos h2], h, Int.le_refl _, fun _ => rfl, fun h => by omega⟩
  · rw [if_neg h2, if_pos (show 0 < ns.length from h)]
    have hpos : (0 : Int) < ns.length := by
      have h0 : 0 < ns.length := h
      omega
    have hlt : (k % (ns.length : Int)).toNat < ns.length := by
      have a1 := Int.emod_nonneg k (show (ns.length : Int) ≠ 0 by omega)
      have a2 := Int.emod_lt_of_pos k hpos
      omega
    rw [List.getElem?_eq_getElem hlt]
    simp only [Option.bind_some]
    split
    · first
        | rw [if_pos hm]
        | skip
      exact ⟨_, _, _, rfl, by unfold DrawOk; rw [List.length_set]; exact h, Int.emod_nonneg _ (by omega), fun _ => by omega, fun _ => Int.emod_lt_of_pos _ (by omega)⟩
    · exact ⟨_, _, _, rfl, h, Int.emod_nonneg _ (by omega), fun _ => by omega, fun _ => Int.emod_lt_of_pos _ (by omega)⟩
section
variable {K : PySem.W.Frag} {mg : Str → Option Value} {base : Heap}
theorem take_set0 {Z H : Hp} {a b : Addr} {k k' : Int} {ns : List Int} (h : Holds K [.drw a k ns] [some (.ref a)] ⟨Z, H, [a, b]⟩) (ha : H a = some (.lst [.int k, .ref b])) (hb : H b = some (.lst (ns.map V.int))) :
    Stp ⟨Z, H, [a, b]⟩ ⟨Z, upd H a (.lst [.int k', .ref b]), [a, b]⟩ ∧ Holds K [.drw a k' ns] [some (.ref a)] ⟨Z, upd H a (.lst [.int k', .ref b]), [a, b]⟩ := by
  have ne : b ≠ a := by
    have nd := h.nd
    simp only [List.nodup_cons, List.mem_singleton] at nd
    exact fun e => nd.1 e.symm
  refine ⟨⟨Same.refl _, fun c o q hn => ?_, fun c o q => ?_, fun c o q => .inl q, fun c m => .inl m⟩, ⟨?_, h.nd, h.zf, fun c o q => ?_⟩⟩
  · have hn' : c ≠ a := fun e => hn (by rw [e]; simp)
    exact (upd_ne hn').trans q
  · by_cases e : c = a
    · subst e
      exact ⟨_, upd_same⟩
    · exact ⟨o, (upd_ne e).trans q⟩
  · have q : HoldsL K ⟨Z, upd H a (.lst [.int k', .ref b]), [a, b]⟩ [.drw a k' ns] [some (.ref a)] ([a, b] ++ []) := .cons ⟨b, rfl, rfl, upd_same, (upd_ne ne).trans hb⟩ .nil
    exact q
  · have nc : c ≠ a := fun e => by
      subst e
      have q' : Z c = some o := q
      have z := h.zf c (by simp)
      have z' : Z c = none := z
      rw [z'] at q'
      cases q'
    exact (upd_ne nc).trans (h.zh c o q)
theorem take_set1 {Z H : Hp} {a b : Addr} {k : Int} {ns ns' : List Int} (h : Holds K [.drw a k ns] [some (.ref a)] ⟨Z, H, [a, b]⟩) (ha : H a = some (.lst [.int k, .ref b])) (hb : H b = some (.lst (ns.map V.int))) :
    Stp ⟨Z, H, [a, b]⟩ ⟨Z, upd H b (.lst (ns'.map V.int)), [a, b]⟩ ∧ Holds K [.drw a k ns'] [some (.ref a)] ⟨Z, upd H b (.lst (ns'.map V.int)), [a, b]⟩ := by
  have ne : a ≠ b := by
    have nd := h.nd
    simp only [List.nodup_cons, List.mem_singleton] at nd
    exact nd.1
  refine ⟨⟨Same.refl _, fun c o q hn => ?_, fun c o q => ?_, fun c o q => .inl q, fun c m => .inl m⟩, ⟨?_, h.nd, h.zf, fun c o q => ?_⟩⟩
  · have hn' : c ≠ b := fun e => hn (by rw [e]; simp)
    exact (upd_ne hn').trans q
  · by_cases e : c = b
    · subst e
      exact ⟨_, upd_same⟩
    · exact ⟨o, (upd_ne e).trans q⟩
  · have q : HoldsL K ⟨Z, upd H b (.lst (ns'.map V.int)), [a, b]⟩ [.drw a k ns'] [some (.ref a)] ([a, b] ++ []) := .cons ⟨b, rfl, rfl, (upd_ne ne).trans ha, upd_same⟩ .nil
    exact q
  · have nc : c ≠ b := fun e => by
      subst e
      have q' : Z c = some o := q
      have z := h.zf c (by simp)
      have z' : Z c = none := z
      rw [z'] at q'
      cases q'
    exact (upd_ne nc).trans (h.zh c o q)
/-- what the first statement of a law leaves -/
def spSt (K : PySem.W.Frag) : Sp := fun vs H Q _ => ∃ (s : Addr) (ns : List Int), vs = [.ref s] ∧ SqL K H s (ns.map V.int) ∧ ns.length ≤ 63 ∧
  ∀ H' a b, Same H H' → H a = none → H b = none → a ≠ b → ∀ ms : List Int, DrawOk ms → H' a = some (.lst [.int 0, .ref b]) → H' b = some (.lst (ms.map V.int)) → Q (.ref a) H'
def spLaw (K : PySem.W.Frag) : Sp := fun vs H Q _ => ∃ (a : Addr) (ns : List Int), vs = [.ref a] ∧ SqL K H a (ns.map V.int) ∧ ns.length ≤ 63 ∧ ∀ H', Q (.bl true) H'
end
end FW

/-! FwL: dicts: made, asked, walked. -/
namespace FW
open PySem PySem.Spec L2
open PyProof.Rows hiding St
section
variable {X : Cx} {W : WX} {pos : Pos}
/-! ### fresh dicts -/
def tM (G : Gx) (t : Bool) (f : EM (List (D × D))) : TE := fun σ H Q => ∃ S Z F, Holds G.K S σ ⟨Z, H, F⟩ ∧ Go G σ ⟨Z, H, F⟩ (f S) (fun es _ c' => ∀ p u, c'.H p = none → DicAt G.K c'.Z (some u) t es → Q (.ref p) (upd c'.H p u))
def DM (X : Cx) (W : WX) (t : Bool) (e : Expr) (f : EM (List (D × D))) : Prop := PE X e (tM (gx X W) t f)
def sDic (i : Nat) (t : Bool) (f : EM (List (D × D))) : SM := sOf f fun es S => if i < S.length then .nx (S.set i (.dic t es)) else .bad
theorem ds_dic (i : Nat) {t : Bool} {x : Str} {e : Expr} {f : EM (List (D × D))} {pos' : Pos} (hN : X.N.Nodup) (he : DM X W t e f) (hi : X.N[i]? = some x := by rfl) (hx : Loc X.env.scope x := by first | exact Or.inl rfl | exact Or.inr rfl) (hs : swapsWith e (some (.Name x pos')) pos.line X.env = pure false := by rfl)
    (hf : X.fn x = true ∨ X.env.scope.names.lookup x = some .local := by first | exact .inl rfl | exact .inr rfl | assumption) : DS X W (.Assign [.Name x pos'] e pos) (sDic i t f) := by
  refine PS.wk (ps_set hN hi hx he hs hf) fun Q σ H q => ?_
  obtain ⟨S, Z, F, h, q⟩ := q
  refine ⟨S, Z, F, h, Go.toS q fun es S1 c1 s1 h1 q1 p u hp da => ?_⟩
  split at q1
  · rename_i hl
    obtain ⟨F', st, h'⟩ := h1.setU (u := u) (sl := .dic t es) hl hp fun F' => ⟨p, rfl, rfl, by
      show DicAt X.K c1.Z (upd c1.H p u p) t es
      rw [upd_same]
      exact da⟩
    exact q1 _ ⟨c1.Z, upd c1.H p u, F'⟩ st h'
  · exact q1.elim
/-- .. frozen at once -/
def eFzM (t : Bool) (f : EM (List (D × D))) : EM D := eBind f fun es => eRet (dictD t es)
theorem de_m {t : Bool} {e : Expr} {f : EM (List (D × D))} (he : DM X W t e f) : DE X W e (eFzM t f) := by
  refine PE.wk (pe_frz he) fun σ H Q q => ?_
  obtain ⟨S, Z, F, h, q⟩ := q
  refine ⟨S, Z, F, h, (Go.bind q).mono fun es S1 c1 s1 h1 q1 p u hp da => .inr ⟨p, u, upd_same, ?_, fun od => ?_⟩⟩
  · obtain ⟨u', e1, mu, _⟩ := da.obj
    cases e1
    exact mu
  · obtain ⟨s2, h2⟩ := h1.lay (o := .frz od u) hp
    have q2 := q1 (c1.lay p (.frz od u)) s2 h2 (.ref p) ((da.mono s2.z).lockR upd_same)
    have e : upd (upd c1.H p u) p (.frz od u) = upd c1.H p (.frz od u) := by
      funext b
      by_cases hb : b = p
      · subst hb
        rw [upd_same, upd_same]
      · rw [upd_ne hb, upd_ne hb, upd_ne hb]
    rw [e]
    exact q2
theorem DicAt.empty {K : PySem.W.Frag} {Z : Hp} : ∀ t : Bool, ∃ u, DicAt K Z (some u) t [] ∧ ((t = false ∧ u = .dK []) ∨ (t = true ∧ u = .dT []))
  | false => ⟨.dK [], ⟨[], [], [], rfl, rfl, .nil, rfl⟩, .inl ⟨rfl, rfl⟩⟩
  | true => ⟨.dT [], ⟨[], [], [], rfl, rfl, .nil, rfl⟩, .inr ⟨rfl, rfl⟩⟩
theorem DicAt.nilK {K : PySem.W.Frag} {Z : Hp} {u : HO} (h : DicAt K Z (some u) false []) : u = .dK [] := by
  obtain ⟨ks, vs, ds, h1, h2, h3, h4⟩ := h
  cases h1
  have l : ks.length = 0 := by
    have := congrArg List.length h4
    simp [h2] at this
    omega
  cases ks with
  | nil => rfl
  | cons _ _ => simp at l
theorem DicAt.nilT {K : PySem.W.Frag} {Z : Hp} {u : HO} (h : DicAt K Z (some u) true []) : u = .dT [] := by
  obtain ⟨ks, vs, ds, h1, h2, h3, h4⟩ := h
  cases h1
  have l : ks.length = 0 := by
    have := congrArg List.length h4
    simp [h2] at this
    omega
  cases ks with
  | nil => rfl
  | cons _ _ => simp at l
theorem dm_nilK : DM X W false (.Dict [] [] pos) (eRet []) := by
  refine PE.wk pe_dnewK fun σ H Q q p hp => ?_
  obtain ⟨S, Z, F, h, q⟩ := q
  exact q _ (Stp.refl _) h p (.dK []) hp ⟨[], [], [], rfl, rfl, .nil, rfl⟩
theorem dm_nilT : DM X W true (.Dict [] [] pos) (eRet []) := by
  refine PE.wk pe_dnewT fun σ H Q q p hp => ?_
  obtain ⟨S, Z, F, h, q⟩ := q
  exact q _ (Stp.refl _) h p (.dT []) hp ⟨[], [], [], rfl, rfl, .nil, rfl⟩
/-! ### displays -/
section
variable {pins : List (Addr × Obj)} {σ : L2.St} {H : Hp} {s : Shared} {a : Addr} {y v : V} {u r : Value} {A : Around} {E : Value → Shared → Prop}
theorem d_dictSet {H' : Hp} {Q : Unit → Shared → Prop} (hu : A.units + 1 < cLine) (I : Inv X pins σ H s) (g : DPut H a y v H') (ry : RelV y u) (rv : RelV v r) (h : ∀ s', Inv X pins σ H' s' → Q () s') :
    wpAny (model X.prog X.w) A (dictSet a u r) Q E s := by
  rcases g with ⟨kvs, k, e, ey, l, eH⟩ | ⟨kvs, k, b, e, ey, eb, l, eH⟩
  · subst ey eH
    obtain ⟨z, hd, vs, rel, dd⟩ := dk_of I.hok e
    have hz : vs.length ≤ sizeLine := by rw [← rel.length]; exact z
    have hl : (putK kvs k v).length ≤ sizeLine := by have := length_putK kvs k v; omega
    refine wpAny_dictSet_pairs (hsz := hz) (kV_is ry) dd fun h' dd' hs => h _ ?_
    have he : ∃ q, h'.get? a = some q := let ⟨q, _, _, hq, _⟩ := dd'; ⟨q, hq⟩
    exact d_write I (by rw [e]; exact True.intro) hs he (dk_new hl hd (rel.put k rv) dd')
  · subst ey eH
    cases (show u = Value.ref b from ry)
    obtain ⟨z, hd, xs, rel, dd⟩ := dt_of I.hok e
    have hz : xs.length ≤ sizeLine := by rw [← Paired.length rel]; exact z
    have hl : (putK kvs k v).length ≤ sizeLine := by have := length_putK kvs k v; omega
    refine wpAny_dictSet_heap (hsz := hz) (show A.units < cLine by omega) (key_of I.hok eb) dd fun h' dd' hs => h _ ?_
    obtain ⟨q, es, ep, hq, h2, h3, h4, _, h5⟩ := dd'
    refine d_write I (by rw [e]; exact True.intro) hs ⟨q, hq⟩ ⟨hl, hd, _, (rel.put k eb rv).keeps fun c ys ec => ?_, q, es, ep, hq, h2, h3, h4, h5⟩
    rw [upd_ne (ne_of ec e (fun z => nomatch z))]
    exact ec
end
/-- the pairs stored, one by one -/
def Puts (a : Addr) : List (V × V) → Hp → (Hp → Prop) → Prop
  | [], H, Q => Q H
  | (y, v) :: r, H, Q => ∃ H', DPut H a y v H' ∧ Puts a r H' Q
theorem puts_run {pins : List (Addr × Obj)} {σ : L2.St} {a : Addr} {A : Around} {E : Value → Shared → Prop} (hu : A.units + 1 < cLine) : ∀ {ps : List (V × V)} {vs : List (Value × Value)} {H : Hp} {s : Shared} {R : PUnit → Shared → Prop} {Q : Hp → Prop}, Inv X pins σ H s → VV ps vs → Puts a ps H Q →
    (∀ H' s', Inv X pins σ H' s' → Q H' → R PUnit.unit s') → wpAny (model X.prog X.w) A (storeAll a vs) R E s
  | [], _, H, s, R, Q, I, .nil, q, k => by
    unfold storeAll
    rw [List.forIn_nil]
    exact wpAny_pure (k H s I q)
  | (y, v) :: ps, _, H, s, R, Q, I, .cons (b := b) (l₂ := vs) r rs, q, k => by
    obtain ⟨H', g, q⟩ := q
    unfold storeAll
    rw [List.forIn_cons]
    exact wpAny_bind (wpAny_bind (d_dictSet hu I g r.1 r.2 fun s' I' => wpAny_pure (puts_run hu I' rs q k)))
def tDispG (t : Bool) (trs : List (TE × TE)) : TE := fun σ H Q => ∀ p o, H p = none → o = (if t then HO.dT [] else HO.dK []) → tPairs trs σ (upd H p o) fun ps H2 => Puts p ps H2 fun H3 => Q (.ref p) H3
theorem pe_dispG (t : Bool) {keys : List (Option Expr)} {values : List Expr} {trs : List (TE × TE)} (hu : X.A.units + 1 < cLine) (h : PPs X pos keys values trs) (hall : keys.all (·.isSome) = true) (hl : keys.length = values.length) (h0 : keys ≠ [])
    (h15 : keys.length ≤ 15) : PE X (.Dict keys values pos) (tDispG t trs) := by
  refine ⟨fun pins s σ H Q I q => ?_⟩
  have hn := I.hok.fresh (Nat.le_refl s.heap.objs.size)
  refine wpAny_Dict_any hall hl h0 h15 ?_
  cases t with
  | false =>
    have I1 := I.laid (a := s.heap.objs.size) (o := .dK []) (h' := s.heap.push { cls := .type "dict", data := .dict #[] }) (t' := s.toks) (fun _ _ q => Heap.get?_push_of_some _ q) (Nat.le_refl _) (dk_empty s.heap I.big)
    refine thn (h.run pins _ σ _ _ I1 (q _ _ hn rfl)) fun ws s2 ⟨ps, H2, I2, rel, q2⟩ => ?_
    exact puts_run hu I2 rel q2 fun H' s' I' q' => ⟨.ref s.heap.objs.size, H', I', rfl, q'⟩
  | true =>
    have I1 := I.laid (a := s.heap.objs.size) (o := .dT []) (h' := s.heap.push { cls := .type "dict", data := .dict #[] }) (t' := s.toks) (fun _ _ q => Heap.get?_push_of_some _ q) (Nat.le_refl _) (dt_empty s.heap I.big)
    refine thn (h.run pins _ σ _ _ I1 (q _ _ hn rfl)) fun ws s2 ⟨ps, H2, I2, rel, q2⟩ => ?_
    exact puts_run hu I2 rel q2 fun H' s' I' q' => ⟨.ref s.heap.objs.size, H', I', rfl, q'⟩
/-- the pairs of a display -/
def ePairs : List (EM D × EM D) → EM (List (D × D))
  | [] => eRet []
  | (fk, fv) :: r => eBind fk fun k => eBind fv fun v => eBind (ePairs r) fun es => eRet ((k, v) :: es)
inductive DPr (X : Cx) (W : WX) (pos : Pos) : List (Option Expr) → List Expr → List (EM D × EM D) → Prop
  | nil : DPr X W pos [] [] []
  | cons {k v : Expr} {ks : List (Option Expr)} {vs : List Expr} {fk fv : EM D} {r : List (EM D × EM D)} : DE X W k fk → DE X W v fv → DPr X W pos ks vs r → DPr X W pos (some k :: ks) (v :: vs) ((fk, fv) :: r)
theorem DPr.pps {ks : List (Option Expr)} {vs : List Expr} {fs : List (EM D × EM D)} (h : DPr X W pos ks vs fs) : PPs X pos ks vs (fs.map fun p => (tD (gx X W) p.1, tD (gx X W) p.2)) := by
  induction h with
  | nil => exact pps_nil
  | cons h1 h2 _ ih => exact pps_cons h1 h2 ih
theorem DPr.all {ks : List (Option Expr)} {vs : List Expr} {fs : List (EM D × EM D)} (h : DPr X W pos ks vs fs) : ks.all (·.isSome) = true ∧ ks.length = vs.length ∧ ks.length = fs.length := by
  induction h with
  | nil => exact ⟨rfl, rfl, rfl⟩
  | cons _ _ _ ih => exact ⟨by simpa using ih.1, by simp [ih.2.1], by simp [ih.2.2]⟩
inductive RpP (K : PySem.W.Frag) (Z : Hp) : List (V × V) → List (D × D) → Prop
  | nil : RpP K Z [] []
  | cons {y v : V} {k d : D} {ps : List (V × V)} {es : List (D × D)} : Rp K Z y k → Rp K Z v d → RpP K Z ps es → RpP K Z ((y, v) :: ps) ((k, d) :: es)
theorem pairs_rd {σ : Sg} {P : List (D × D) → List Slot → Cfg → Prop} : ∀ (fs : List (EM D × EM D)) {S : List Slot} {c : Cfg} {Q : List (V × V) → Hp → Prop}, Holds X.K S σ c → Go (gx X W) σ c (ePairs fs S) P →
    (∀ es S' c' ps, Stp c c' → Holds X.K S' σ c' → RpP X.K c'.Z ps es → P es S' c' → Q ps c'.H) → tPairs (fs.map fun p => (tD (gx X W) p.1, tD (gx X W) p.2)) σ c.H Q
  | [], S, c, Q, h, q, k => k [] S c [] (Stp.refl _) h .nil (q c (Stp.refl _) h)
  | (fk, fv) :: fs, S, c, Q, h, q, k => by
    refine ⟨S, c.Z, c.F, h, (Go.bind q).mono fun kk S1 c1 s1 h1 q1 x rx => ?_⟩
    refine ⟨S1, c1.Z, c1.F, h1, (Go.bind q1).mono fun vv S2 c2 s2 h2 q2 y ry => ?_⟩
    refine pairs_rd fs (P := fun es S' c' => P ((kk, vv) :: es) S' c') h2 ((Go.bind q2).mono fun es S3 c3 s3 h3 q3 => q3 c3 (Stp.refl _) h3) fun es S3 c3 ps s3 h3 rp q3 => ?_
    exact k ((kk, vv) :: es) S3 c3 ((x, y) :: ps) (s1.trans (s2.trans s3)) h3 (.cons ((rx.mono s2.z).mono s3.z) (ry.mono s3.z) rp) q3
def esPuts (t : Bool) : List (D × D) → List (D × D) → Option (List (D × D))
  | es, [] => some es
  | es, (k, v) :: r => if isKey t k then esPuts t (esPut es k v) r else none
theorem esPut_len (es : List (D × D)) (k v : D) : (esPut es k v).length ≤ es.length + 1 := by
  unfold esPut
  split <;> simp
theorem puts_rd {K : PySem.W.Frag} {c : Cfg} {p : Addr} {t : Bool} (zh : Same c.Z c.H) (zp : c.Z p = none) : ∀ {ps : List (V × V)} {es acc out : List (D × D)} {u : HO} {Q : Hp → Prop}, RpP K c.Z ps es → esPuts t acc es = some out → acc.length + es.length < sizeLine → DicAt K c.Z (some u) t acc →
    (∀ u', DicAt K c.Z (some u') t out → Q (upd c.H p u')) → Puts p ps (upd c.H p u) Q
  | [], _, acc, out, u, Q, .nil, e, _, da, q => by
    cases e
    exact q u da
  | (y, v) :: ps, _, acc, out, u, Q, .cons (k := k) (d := d) (es := es) rk rv r, e, hl, da, q => by
    unfold esPuts at e
    split at e
    · rename_i hk
      rw [List.length_cons] at hl
      have sm : Same c.Z (upd c.H p u) := fun b o e => by
        have ne : b ≠ p := by
          rintro rfl
          rw [zp] at e
          cases e
        rw [upd_ne ne]
        exact zh b o e
      obtain ⟨u', g, da'⟩ := DicAt.put (H := upd c.H p u) (a := p) sm (by rw [upd_same]; exact da) hk rk rv (by omega)
      have e2 : upd (upd c.H p u) p u' = upd c.H p u' := by
        funext b
        by_cases hb : b = p
        · subst hb
          rw [upd_same, upd_same]
        · rw [upd_ne hb, upd_ne hb, upd_ne hb]
      rw [e2] at g
      have := esPut_len acc k d
      exact ⟨_, g, puts_rd zh zp r e (by omega) da' q⟩
    · cases e
def eDisp (t : Bool) (fs : List (EM D × EM D)) : EM (List (D × D)) := eBind (ePairs fs) fun es => if es.length ≤ 15 then eOpt (esPuts t [] es) else fun _ => .bad
theorem Cfg.del_ok {K : PySem.W.Frag} {S : List Slot} {σ : Sg} {c c' : Cfg} {p : Addr} {o : HO} (hp : c.H p = none) (s : Stp (c.tmp p o) c') (h : Holds K S σ c') (zp : c'.Z p = none) (pF : p ∉ c'.F) :
    Stp c ⟨c'.Z, fun b => if b = p then none else c'.H b, c'.F⟩ ∧ Holds K S σ ⟨c'.Z, fun b => if b = p then none else c'.H b, c'.F⟩ := by
  have hne : ∀ b, b ≠ p → (fun b => if b = p then none else c'.H b : Hp) b = c'.H b := fun b hb => if_neg hb
  have nb : ∀ {b x}, c.H b = some x → b ≠ p := fun {b x} e => by
    rintro rfl
    rw [hp] at e
    cases e
  have old : ∀ {b x}, c.H b = some x → (c.tmp p o).H b = some x := fun {b x} e => (upd_ne (nb e)).trans e
  refine ⟨⟨s.z, fun b x e hn => (hne b (nb e)).trans (s.k b x (old e) hn), fun b x e => ?_, fun b x e => ?_, fun b m => ?_⟩, ⟨?_, h.nd, h.zf, fun b x e => ?_⟩⟩
  · obtain ⟨x', e'⟩ := s.t b x (old e)
    exact ⟨x', (hne b (nb e)).trans e'⟩
  · have bp : b ≠ p := by
      rintro rfl
      have e' : c'.Z b = some x := e
      rw [zp] at e'
      cases e'
    have back : (c.tmp p o).H b = c.H b := upd_ne bp
    rcases s.n b x e with z | z | z | ⟨xs, z⟩
    · exact .inl z
    · exact .inr (.inl (back ▸ z))
    · exact .inr (.inr (.inl z))
    · exact .inr (.inr (.inr ⟨xs, back ▸ z⟩))
  · have bp : b ≠ p := by
      rintro rfl
      exact pF m
    have back : (c.tmp p o).H b = c.H b := upd_ne bp
    rcases s.f b m with z | z
    · exact .inl z
    · exact .inr (back ▸ z)
  · exact HoldsL.tr (c := c') (c' := ⟨c'.Z, fun b => if b = p then none else c'.H b, c'.F⟩) (Same.refl c'.Z) h.l fun a ha => hne a fun z => pF (z ▸ ha)
  · have bp : b ≠ p := by
      rintro rfl
      have e' : c'.Z b = some x := e
      rw [zp] at e'
      cases e'
    exact (hne b bp).trans (h.zh b x e)
theorem dm_disp {t : Bool} {ks : List (Option Expr)} {vs : List Expr} {fs : List (EM D × EM D)} (hu : X.A.units + 64 < cLine) (h : DPr X W pos ks vs fs) (h0 : ks ≠ [] := by decide) (h15 : ks.length ≤ 15 := by decide) : DM X W t (.Dict ks vs pos) (eDisp t fs) := by
  obtain ⟨a1, a2, a3⟩ := h.all
  refine PE.wk (pe_dispG t (by omega) h.pps a1 a2 h0 h15) fun σ H Q q p o hp ho => ?_
  obtain ⟨S, Z, F, hh, q⟩ := q
  obtain ⟨st, h1⟩ := hh.tmpS (o := o) hp
  have q0 := Go.bind q
  cases er : ePairs fs S with
  | bad => rw [er] at q0; exact q0.elim
  | ex x S1 =>
    rw [er] at q0
    exact pairs_rd fs (c := (⟨Z, H, F⟩ : Cfg).tmp p o) (P := fun _ _ _ => False) h1 (by rw [er]; exact fun c' cls dx s hh x => q0 c' cls dx (st.trans s) hh x) fun es S2 c2 ps s2 h2 rp q2 => q2.elim
  | ok es S1 =>
  rw [er] at q0
  refine pairs_rd fs (c := (⟨Z, H, F⟩ : Cfg).tmp p o) (P := fun es' S' _ => es' = es ∧ S' = S1) h1 (by rw [er]; exact fun c' _ _ => ⟨rfl, rfl⟩) fun es' S2 c2 ps s2 h2 rp ⟨ee, eS⟩ => ?_
  subst ee eS
  have hF0 : p ∉ ((⟨Z, H, F⟩ : Cfg).tmp p o).F := hh.nF hp
  have e2 : c2.H p = some o := s2.k p o upd_same hF0
  have z2 : c2.Z p = none := by
    cases e : c2.Z p with
    | none => rfl
    | some x =>
      rcases s2.n p x e with z | z | z | ⟨xs, z⟩
      · have z' : Z p = some x := z
        rw [show Z p = none from hh.nf hp] at z'
        cases z'
      · have z' : upd H p o p = none := z
        rw [upd_same] at z'
        cases z'
      · exact absurd z hF0
      · have z' : upd H p o p = some (.tup xs) := z
        rw [upd_same] at z'
        cases t <;> simp at ho <;> subst ho <;> cases z'
  have f2 : p ∉ c2.F := fun m => by
    rcases s2.f p m with z | z
    · exact hF0 z
    · have z' : upd H p o p = none := z
      rw [upd_same] at z'
      cases z'
  obtain ⟨st3, h3⟩ := Cfg.del_ok (c := ⟨Z, H, F⟩) hp s2 h2 z2 f2
  have dd : DicAt X.K c2.Z (some o) t [] := by
    cases t with
    | false => subst ho; exact ⟨[], [], [], rfl, rfl, .nil, rfl⟩
    | true => subst ho; exact ⟨[], [], [], rfl, rfl, .nil, rfl⟩
  have eq : upd c2.H p o = c2.H := by
    funext b
    by_cases hb : b = p
    · subst hb
      rw [upd_same, e2]
    · rw [upd_ne hb]
  have q3 := q0 _ st3 h3
  have q4 : Go (gx X W) σ ⟨c2.Z, fun b => if b = p then none else c2.H b, c2.F⟩ ((if es'.length ≤ 15 then eOpt (esPuts t [] es') else fun _ => .bad) S2) (fun es _ c' => ∀ p u, c'.H p = none → DicAt X.K c'.Z (some u) t es → Q (.ref p) (upd c'.H p u)) := q3
  split at q4
  rotate_left
  · exact q4.elim
  rename_i hl
  obtain ⟨out, e1, k⟩ := Go.opt q4
  have h16 : (15 : Nat) < sizeLine := by decide
  have g := puts_rd (K := X.K) (c := c2) (p := p) (t := t) h2.zh z2 (acc := []) (u := o) (Q := fun H3 => Q (.ref p) H3) rp e1 (by rw [List.length_nil]; omega) dd fun u' da => by
    have q5 := k _ (Stp.refl _) h3 p u' (if_pos rfl) da
    have eq3 : upd (fun b => if b = p then none else c2.H b) p u' = upd c2.H p u' := by
      funext b
      by_cases hb : b = p
      · subst hb
        rw [upd_same, upd_same]
      · rw [upd_ne hb, upd_ne hb]
        exact if_neg hb
    rw [← eq3]
    exact q5
  rw [eq] at g
  exact g
/-! ### d.get(k, x), d.get(k) -/
def getDic (d k : D) : Option (Option D) := (dicOf d).bind fun te => if isKey te.1 k then some (esGet te.2 k) else none
def eGet2 (fo fk fx : EM D) : EM D := eBind fo fun d => eBind fk fun k => eBind fx fun x => eOpt ((getDic d k).map fun o => o.getD x)
def eGet1 (fo fk : EM D) : EM D := eBind fo fun d => eBind fk fun k => eOpt ((getDic d k).map fun o => o.getD .none)
theorem getDic_lo {c : Cfg} {x y : V} {d k : D} {o : Option D} (sm : Same c.Z c.H) (e : getDic d k = some o) (rb : Lo X.K c x d) (ra : Rp X.K c.Z y k) : ∃ p o', x = .ref p ∧ IsD c.H p ∧ DGet c.H p y o' ∧ RpO X.K c.Z o' o := by
  obtain ⟨⟨t, es⟩, e1, e2⟩ := Option.bind_eq_some_iff.mp e
  dsimp only at e2
  split at e2
  · rename_i hk
    cases e2
    obtain ⟨p, u, rfl, hr, da⟩ := rb.dicI sm e1
    obtain ⟨o, g, ro⟩ := da.get sm hr hk ra
    refine ⟨p, o, rfl, ?_, g, ro⟩
    rcases da.len with ⟨kvs, h1, _⟩ | ⟨kvs, h1, _⟩
    · cases h1; exact .inl ⟨kvs, hr⟩
    · cases h1; exact .inr ⟨kvs, hr⟩
  · cases e2
/-- a dict as it lies -/
theorem Lo.isD {c : Cfg} {x : V} {d : D} (sm : Same c.Z c.H) (h : Lo X.K c x d) (e : (dicOf d).isSome = true) : ∃ p, x = .ref p ∧ IsD c.H p := by
  obtain ⟨⟨t, es⟩, e1⟩ := Option.isSome_iff_exists.mp e
  obtain ⟨p, u, rfl, hr, da⟩ := h.dicI sm e1
  refine ⟨p, rfl, ?_⟩
  rcases da.len with ⟨kvs, h1, _⟩ | ⟨kvs, h1, _⟩
  · cases h1; exact .inl ⟨kvs, hr⟩
  · cases h1; exact .inr ⟨kvs, hr⟩
variable {e k v : Expr} {apos : Pos} {fo fk fx : EM D}
/-- the receiver must be a dict before the arguments are looked at -/
def eDic (f : EM D) : EM D := eBind f fun d => if (dicOf d).isSome then eRet d else fun _ => .bad
theorem de_get2 (hu : X.A.units + 64 < cLine) (ho : DE X W e fo) (hk : DE X W k fk) (hv : DE X W v fx) (m : M2 X e "get" apos k v pos := by exact ⟨rfl, rfl, rfl, rfl⟩) :
    DE X W (.Call (.Attribute e "get" apos) [k, v] [] pos) (eGet2 (eDic fo) fk fx) := by
  refine PE.wk (pe_dget2 (by omega) ho hk hv m) fun σ H Q q => ?_
  obtain ⟨S, Z, F, h, q⟩ := q
  have q' := (Go.bind q)
  unfold eDic at q'
  refine ⟨S, Z, F, h, (Go.bind q').mono fun d S1 c1 s1 h1 q1 x rx => ?_⟩
  split at q1
  · rename_i hd
    have q1' := q1 c1 (Stp.refl _) h1
    obtain ⟨p, rfl, isd⟩ := Lo.isD h1.zh (.z rx) hd
    refine ⟨p, rfl, isd, S1, c1.Z, c1.F, h1, (Go.bind q1').mono fun kk S2 c2 s2 h2 q2 y ry => ?_⟩
    refine ⟨S2, c2.Z, c2.F, h2, (Go.bind q2).mono fun xx S3 c3 s3 h3 q3 z rz => ?_⟩
    obtain ⟨r, e1, k⟩ := Go.opt q3
    obtain ⟨o, e2, e3⟩ := Option.map_eq_some_iff.mp e1
    subst e3
    obtain ⟨p', o', ep, _, g, ro⟩ := getDic_lo h3.zh e2 (.z ((rx.mono s2.z).mono s3.z)) (ry.mono s3.z)
    cases ep
    exact ⟨o', g, k c3 (Stp.refl _) h3 _ (ro.getD rz)⟩
  · exact q1.elim
theorem de_get1 (hu : X.A.units + 64 < cLine) (ho : DE X W e fo) (hk : DE X W k fk) (m : M1 X e "get" apos k pos := by exact ⟨rfl, rfl, rfl, rfl⟩) :
    DE X W (.Call (.Attribute e "get" apos) [k] [] pos) (eGet1 (eDic fo) fk) := by
  refine PE.wk (pe_dget1 (by omega) ho hk m) fun σ H Q q => ?_
  obtain ⟨S, Z, F, h, q⟩ := q
  have q' := (Go.bind q)
  unfold eDic at q'
  refine ⟨S, Z, F, h, (Go.bind q').mono fun d S1 c1 s1 h1 q1 x rx => ?_⟩
  split at q1
  · rename_i hd
    have q1' := q1 c1 (Stp.refl _) h1
    obtain ⟨p, rfl, isd⟩ := Lo.isD h1.zh (.z rx) hd
    refine ⟨p, rfl, isd, S1, c1.Z, c1.F, h1, (Go.bind q1').mono fun kk S2 c2 s2 h2 q2 y ry => ?_⟩
    obtain ⟨r, e1, k⟩ := Go.opt q2
    obtain ⟨o, e2, e3⟩ := Option.map_eq_some_iff.mp e1
    subst e3
    obtain ⟨p', o', ep, _, g, ro⟩ := getDic_lo h2.zh e2 (.z (rx.mono s2.z)) ry
    cases ep
    exact ⟨o', g, k c2 (Stp.refl _) h2 _ (ro.getD .non)⟩
  · exact q1.elim
/-- .. of a dict in a slot of its own -/
def slotDic (S : List Slot) (i : Nat) : Option D := (slotAt S i).bind fun d => if (dicOf d).isSome then some d else none
def eGet2O (i : Nat) (fk fx : EM D) : EM D := fun S0 => match slotDic S0 i with
  | some _ => eBind fk (fun k => eBind fx fun x S => match slotAt S i with
    | some d => eOpt ((getDic d k).map fun o => o.getD x) S
    | none => .bad) S0
  | _ => .bad
def eGet1O (i : Nat) (fk : EM D) : EM D := fun S0 => match slotDic S0 i with
  | some _ => eBind fk (fun k S => match slotAt S i with
    | some d => eOpt ((getDic d k).map fun o => o.getD .none) S
    | none => .bad) S0
  | _ => .bad
variable {x : Str} {p : Pos}
theorem de_get2O (hu : X.A.units + 64 < cLine) (i : Nat) (hk : DE X W k fk) (hv : DE X W v fx) (hN : X.N[i]? = some x := by rfl) (hvis : Vis X.env.scope x := by first | exact Or.inl rfl | exact Or.inr (Or.inl rfl) | exact Or.inr (Or.inr rfl)) (hd : (x == ("__debug__" : Str)) = false := by decide) (hcd : (x == ("__classdict__" : Str)) = false := by decide)
    (m : M2 X (.Name x p) "get" apos k v pos := by exact ⟨rfl, rfl, rfl, rfl⟩) : DE X W (.Call (.Attribute (.Name x p) "get" apos) [k, v] [] pos) (eGet2O i fk fx) := by
  refine PE.wk (pe_dget2 (by omega) (pe_var hN hvis hd hcd) hk hv m) fun σ H Q q => ?_
  obtain ⟨S, Z, F, h, q⟩ := q
  unfold eGet2O at q
  split at q
  rotate_left
  · exact q.elim
  rename_i d0 e0
  obtain ⟨d1, e0a, e0b⟩ := Option.bind_eq_some_iff.mp e0
  split at e0b
  rotate_left
  · cases e0b
  rename_i hdd
  obtain ⟨p0, e2, r0⟩ := h.loAt e0a
  obtain ⟨p1, ep, isd⟩ := r0.isD h.zh hdd
  cases ep
  refine ⟨.ref p0, e2, p0, rfl, isd, S, Z, F, h, (Go.bind q).mono fun kk S1 c1 s1 h1 q1 y ry => ?_⟩
  refine ⟨S1, c1.Z, c1.F, h1, (Go.bind q1).mono fun xx S2 c2 s2 h2 q2 z rz => ?_⟩
  split at q2
  · rename_i d e3
    obtain ⟨p3, e4, r3⟩ := h2.loAt e3
    rw [e2] at e4
    cases e4
    obtain ⟨r, e5, k⟩ := Go.opt q2
    obtain ⟨o, e6, e7⟩ := Option.map_eq_some_iff.mp e5
    subst e7
    obtain ⟨p', o', ep, _, g, ro⟩ := getDic_lo h2.zh e6 r3 (ry.mono s2.z)
    cases ep
    exact ⟨o', g, k c2 (Stp.refl _) h2 _ (ro.getD rz)⟩
  · exact q2.elim
theorem de_get1O (hu : X.A.units + 64 < cLine) (i : Nat) (hk : DE X W k fk) (hN : X.N[i]? = some x := by rfl) (hvis : Vis X.env.scope x := by first | exact Or.inl rfl | exact Or.inr (Or.inl rfl) | exact Or.inr (Or.inr rfl)) (hd : (x == ("__debug__" : Str)) = false := by decide) (hcd : (x == ("__classdict__" : Str)) = false := by decide)
    (m : M1 X (.Name x p) "get" apos k pos := by exact ⟨rfl, rfl, rfl, rfl⟩) : DE X W (.Call (.Attribute (.Name x p) "get" apos) [k] [] pos) (eGet1O i fk) := by
  refine PE.wk (pe_dget1 (by omega) (pe_var hN hvis hd hcd) hk m) fun σ H Q q => ?_
  obtain ⟨S, Z, F, h, q⟩ := q
  unfold eGet1O at q
  split at q
  rotate_left
  · exact q.elim
  rename_i d0 e0
  obtain ⟨d1, e0a, e0b⟩ := Option.bind_eq_some_iff.mp e0
  split at e0b
  rotate_left
  · cases e0b
  rename_i hdd
  obtain ⟨p0, e2, r0⟩ := h.loAt e0a
  obtain ⟨p1, ep, isd⟩ := r0.isD h.zh hdd
  cases ep
  refine ⟨.ref p0, e2, p0, rfl, isd, S, Z, F, h, (Go.bind q).mono fun kk S1 c1 s1 h1 q1 y ry => ?_⟩
  split at q1
  · rename_i d e3
    obtain ⟨p3, e4, r3⟩ := h1.loAt e3
    rw [e2] at e4
    cases e4
    obtain ⟨r, e5, k⟩ := Go.opt q1
    obtain ⟨o, e6, e7⟩ := Option.map_eq_some_iff.mp e5
    subst e7
    obtain ⟨p', o', ep, _, g, ro⟩ := getDic_lo h1.zh e6 r3 ry
    cases ep
    exact ⟨o', g, k c1 (Stp.refl _) h1 _ (ro.getD .non)⟩
  · exact q1.elim
/-! ### dicts walked -/
/-- a tuple that stands there is known -/
theorem Holds.know {K : PySem.W.Frag} {S : List Slot} {σ : Sg} {c : Cfg} {b : Addr} {xs : List V} (h : Holds K S σ c) (e : c.H b = some (.tup xs)) : ∃ Z', Z' b = some (.tup xs) ∧ Stp c ⟨Z', c.H, c.F⟩ ∧ Holds K S σ ⟨Z', c.H, c.F⟩ := by
  cases ez : c.Z b with
  | some o =>
    have e2 := h.zh b o ez
    rw [e] at e2
    cases e2
    exact ⟨c.Z, ez, Stp.refl _, h⟩
  | none =>
    have bF : b ∉ c.F := fun m => by
      obtain ⟨o, e1, e2⟩ := h.l.own b m
      rw [e] at e1
      cases e1
      exact e2 _ rfl
    have sm : Same c.Z (upd c.Z b (.tup xs)) := same_upd ez
    refine ⟨upd c.Z b (.tup xs), upd_same, ⟨sm, fun _ _ q _ => q, fun _ o q => ⟨o, q⟩, fun b' o q => ?_, fun _ m => .inl m⟩, ⟨h.l.tr (c' := ⟨upd c.Z b (.tup xs), c.H, c.F⟩) sm fun _ _ => rfl, h.nd, fun a m => ?_, fun b' o q => ?_⟩⟩
    · by_cases hb : b' = b
      · subst hb
        exact .inr (.inr (.inr ⟨xs, e⟩))
      · have q' : upd c.Z b (.tup xs) b' = some o := q
        rw [upd_ne hb] at q'
        exact .inl q'
    · show upd c.Z b (.tup xs) a = none
      rw [upd_ne (show a ≠ b from fun z => bF (z ▸ m))]
      exact h.zf a m
    · have q' : upd c.Z b (.tup xs) b' = some o := q
      by_cases hb : b' = b
      · subst hb
        rw [upd_same] at q'
        cases q'
        exact e
      · rw [upd_ne hb] at q'
        exact h.zh b' o q'
theorem zip_get {α β : Type} {as : List α} {bs : List β} {i : Nat} {a : α} {b : β} (h : (as.zip bs)[i]? = some (a, b)) : as[i]? = some a := by
  rw [List.getElem?_zip_eq_some] at h
  exact h.1
theorem ItOk.dk {K : PySem.W.Frag} {Z0 : Hp} {a : Addr} {o : Obj} {ks : List Key} {vs : List V} (ha : Z0 a = some (.frz o (.dK (ks.zip vs)))) (hl : ks.length = vs.length) : ItOk K Z0 (Itk a o (ks.zip vs)) (ks.map kD) where
  go := fun i c S σ hi sm h => by
    rw [List.length_map] at hi
    refine ⟨⟨h.zh _ _ (sm _ _ ha), by simp; omega⟩, fun x H' y => ?_⟩
    obtain ⟨e1, k, v, e2, e3⟩ := y
    subst e1 e3
    have e4 := zip_get e2
    refine ⟨c, kD k, rfl, by rw [List.getElem?_map, e4]; rfl, Stp.refl _, h, ?_⟩
    cases k with
    | inl i => exact .int i
    | inr x => exact .str x
  stop := fun i c S σ hi sm h => ⟨h.zh _ _ (sm _ _ ha), by rw [List.length_map] at hi; simp; omega⟩
theorem ItOk.dt {K : PySem.W.Frag} {Z0 : Hp} {a : Addr} {o : Obj} {ks : List (List Key)} {vs : List V} (ha : Z0 a = some (.frz o (.dT (ks.zip vs)))) (hl : ks.length = vs.length) : ItOk K Z0 (Itkt a o (ks.zip vs)) (ks.map kTD) where
  go := fun i c S σ hi sm h => by
    rw [List.length_map] at hi
    refine ⟨⟨h.zh _ _ (sm _ _ ha), by simp; omega⟩, fun x H' y => ?_⟩
    obtain ⟨e1, k, v, q, e2, e3, e5⟩ := y
    subst e1 e3
    have e4 := zip_get e2
    obtain ⟨Z', z1, st, h'⟩ := h.know e5
    exact ⟨⟨Z', c.H, c.F⟩, kTD k, rfl, by rw [List.getElem?_map, e4]; rfl, st, h', .tup z1 (RpA.ofKey k)⟩
  stop := fun i c S σ hi sm h => ⟨h.zh _ _ (sm _ _ ha), by rw [List.length_map] at hi; simp; omega⟩
def walkK : D → Option (List D)
  | .dict es => (dicOf (.dict es)).map fun te => te.2.map (·.1)
  | _ => none
def iK (f : EM D) : EM (List D) := eBind f fun d => eOpt (walkK d)
theorem di_keys {tg : Expr} (he : DE X W e fo) : DI X W tg e (iK fo) := by
  refine PI.wk (pi_keys he) fun σ H R q => ?_
  obtain ⟨S, Z, F, h, q⟩ := q
  refine ⟨S, Z, F, h, (Go.bind q).mono fun d S1 c1 s1 h1 q1 x rx => ?_⟩
  obtain ⟨ds, e, k⟩ := Go.opt q1
  cases rx with
  | @dk a o ks vs es r1 r2 r3 =>
    have e' : (dicOf (PyData.dict _)).map (fun te => te.2.map (·.1)) = some ds := e
    rw [dicOf_false] at e'
    have l := r3.length
    have ek : List.map (fun x => x.fst) ((List.map kD ks).zip es) = List.map kD ks := List.map_fst_zip (by rw [List.length_map]; omega)
    have e2 : ds = List.map kD ks := by
      rw [← ek]
      exact (Option.some.inj e').symm
    subst e2
    exact ⟨_, _, rfl, .inl ⟨_, h1.zh _ _ r1, k c1 (Stp.refl _) h1 _ (ItOk.dk r1 (by omega))⟩⟩
  | @dt a o ks vs es r1 r2 r3 =>
    have l := r3.length
    have ek : List.map (fun x => x.fst) ((List.map kTD ks).zip es) = List.map kTD ks := List.map_fst_zip (by rw [List.length_map]; omega)
    have e2 : ds = List.map kTD ks := by
      rw [← ek]
      exact (Option.some.inj e).symm
    subst e2
    exact ⟨_, _, rfl, .inr ⟨_, h1.zh _ _ r1, k c1 (Stp.refl _) h1 _ (ItOk.dt r1 (by omega))⟩⟩
  | _ => cases e
/-- whatever is walked: lists, tuples, dicts by their keys -/
def walkA : D → Option (List D)
  | .list ds => some ds
  | .tuple ds => some ds
  | .dict es => walkK (.dict es)
  | _ => none
def iA (f : EM D) : EM (List D) := eBind f fun d => eOpt (walkA d)
theorem di_any {tg : Expr} (he : DE X W e fo) : DI X W tg e (iA fo) := by
  refine ⟨fun pins s σ H R I q => ?_⟩
  obtain ⟨S, Z, F, h, q⟩ := q
  unfold iA eBind at q
  cases ef : fo S with
  | bad => rw [ef] at q; exact q.elim
  | ex y S' =>
    rw [ef] at q
    refine (di_list he).run pins s σ H R I ⟨S, Z, F, h, ?_⟩
    unfold iL eBind
    rw [ef]
    exact q
  | ok d S' =>
    rw [ef] at q
    cases d with
    | list ds =>
      refine (di_list he).run pins s σ H R I ⟨S, Z, F, h, ?_⟩
      unfold iL eBind
      rw [ef]
      exact q
    | tuple ds =>
      refine (di_tup he).run pins s σ H R I ⟨S, Z, F, h, ?_⟩
      unfold iT eBind
      rw [ef]
      exact q
    | dict ds =>
      refine (di_keys he).run pins s σ H R I ⟨S, Z, F, h, ?_⟩
      unfold iK eBind
      rw [ef]
      exact q
    | _ => exact q.elim
end
end FW

/-! FwN: any and all of what is flat. -/
namespace FW
open PySem PySem.Spec L2
open PyProof.Rows hiding St
inductive TrV : V → Bool → Prop
  | bl (b : Bool) : TrV (.bl b) b
  | int (i : Int) : TrV (.int i) (i != 0)
inductive TrA : List V → List Bool → Prop
  | nil : TrA [] []
  | cons {v : V} {b : Bool} {vs : List V} {bs : List Bool} : TrV v b → TrA vs bs → TrA (v :: vs) (b :: bs)
theorem TrA.get : ∀ {vs : List V} {bs : List Bool} {i : Nat} {v : V}, TrA vs bs → vs[i]? = some v → ∃ b, bs[i]? = some b ∧ TrV v b
  | _, _, _, _, .nil, e => by simp at e
  | _, _, 0, _, .cons h _, e => by simp at e; subst e; exact ⟨_, rfl, h⟩
  | _, _, i + 1, _, .cons _ t, e => by
    obtain ⟨b, e1, e2⟩ := TrA.get t (by simpa using e)
    exact ⟨b, by simpa using e1, e2⟩
theorem TrA.length : ∀ {vs : List V} {bs : List Bool}, TrA vs bs → vs.length = bs.length
  | _, _, .nil => rfl
  | _, _, .cons _ t => by simp [TrA.length t]
theorem truth_flat {prog : Program} {w : World} {A : Around} {vs : List V} {bs : List Bool} {its : List Value} (r : Vals vs its) (t : TrA vs bs) :
    TruthOf prog w A (fun i v => its.toArray[i]? = some v) (fun i => bs.getD i false) := fun i v s Q E hv hq => by
  have hv' : its[i]? = some v := by simpa using hv
  have hl := r.length
  obtain ⟨hi, _⟩ := List.getElem?_eq_some_iff.mp hv'
  obtain ⟨u, hu, ru⟩ := r.get (i := i) (x := vs[i]'(by omega)) (List.getElem?_eq_getElem (by omega))
  rw [hv'] at hu
  cases hu
  obtain ⟨b, hb, tb⟩ := t.get (List.getElem?_eq_getElem (show i < vs.length by omega))
  have hg : bs.getD i false = b := by rw [List.getD_eq_getElem?_getD, hb] <;> rfl
  have hq' : Q (bs.getD i false) s := hq
  rw [hg] at hq'
  generalize vs[i]'(by omega) = x at ru tb
  cases tb with
  | bl b =>
    cases (show v = Value.bool b from ru)
    exact wpAny_truthy_bool hq'
  | int n =>
    obtain ⟨t, rfl⟩ := ru
    exact P.truthy_int hq'
def rAnyV (K : PySem.W.Frag) (al : Bool) : List V → Hp → VK → Prop := fun vs H Q => ∃ (a : Addr) (xs : List V) (bs : List Bool), vs = [V.ref a] ∧ (SqL K H a xs ∨ SqT K H a xs) ∧ TrA xs bs ∧ Q (.bl (if al then bs.all id else bs.any id)) H
section
variable {X : Cx} {W : WX}
theorem iter_anyT {prog : Program} {w : World} {A : Around} {E : Value → Shared → Prop} {s : Shared} {l : Addr} {items : Array Value} {Q : Value → Shared → Prop} (hl : s.heap.IsTuple l items)
    (h : ∀ s₂ : Shared, s₂ = { s with heap := s.heap.push { cls := .type "tuple_iterator", data := .fields #[.ref l, .int 0 0] } } →
      (s₂.heap.IsTupleIter s.heap.objs.size l 0 ∧ s₂.heap.IsTuple l items) → l ≠ s.heap.objs.size → Q (.ref s.heap.objs.size) s₂) : wpAny (model prog w) A (pyIter (.ref l)) Q E s := by
  have hlt : l < s.heap.objs.size := by obtain ⟨_, e, _⟩ := hl; exact Heap.lt_size e
  exact wpAny_pyIter_tuple hl (h _ rfl ⟨⟨_, Heap.get?_push_size _ rfl, rfl, rfl⟩, hl.push _⟩ (Nat.ne_of_lt hlt))
theorem cr_anyV (hc : X.calm = true) : CallR X (.builtin "any") (rAnyV X.K false) := by
  intro pins s σ H vs us Q I r h
  obtain ⟨a, xs, bs, rfl, hs, t, q⟩ := h
  rw [Vals.ref1 r]
  rcases hs with hs | hs
  · obtain ⟨its, rv, hl, _⟩ := I.list hs
    refine call_any_walk (iter_any hl.isList fun s₂ e2 st hne => ?_)
    subst e2
    refine ⟨_, _, _, _, _, _, _, rfl, Walks.list (A := X.A.in1) (I.ok.hd hc) _ a hne its.toArray, st, truth_flat rv t, fun h' tk hk => ?_⟩
    refine ⟨.bl _, H, I.kept fun b o eo => hk b o (fun hmem => ?_) (Heap.get?_push_of_some _ eo), ?_, q⟩
    · rcases List.mem_cons.mp hmem with e1 | hmem
      · exact absurd (e1 ▸ Heap.lt_size eo) (Nat.lt_irrefl _)
      · cases hmem
    · show Value.bool _ = Value.bool _
      rw [if_neg Bool.false_ne_true, ← L2.any_range, List.size_toArray, ← rv.length, t.length]
  · obtain ⟨its, rv, hl, _⟩ := I.tuple hs
    refine call_any_walk (iter_anyT hl fun s₂ e2 st hne => ?_)
    subst e2
    refine ⟨_, _, _, _, _, _, _, rfl, Walks.tuple (A := X.A.in1) (I.ok.hd hc) _ a hne its.toArray, st, truth_flat rv t, fun h' tk hk => ?_⟩
    refine ⟨.bl _, H, I.kept fun b o eo => hk b o (fun hmem => ?_) (Heap.get?_push_of_some _ eo), ?_, q⟩
    · rcases List.mem_cons.mp hmem with e1 | hmem
      · exact absurd (e1 ▸ Heap.lt_size eo) (Nat.lt_irrefl _)
      · cases hmem
    · show Value.bool _ = Value.bool _
      rw [if_neg Bool.false_ne_true, ← L2.any_range, List.size_toArray, ← rv.length, t.length]
theorem cr_allV (hc : X.calm = true) : CallR X (.builtin "all") (rAnyV X.K true) := by
  intro pins s σ H vs us Q I r h
  obtain ⟨a, xs, bs, rfl, hs, t, q⟩ := h
  rw [Vals.ref1 r]
  rcases hs with hs | hs
  · obtain ⟨its, rv, hl, _⟩ := I.list hs
    refine call_all_walk (iter_any hl.isList fun s₂ e2 st hne => ?_)
    subst e2
    refine ⟨_, _, _, _, _, _, _, rfl, Walks.list (A := X.A.in1) (I.ok.hd hc) _ a hne its.toArray, st, truth_flat rv t, fun h' tk hk => ?_⟩
    refine ⟨.bl _, H, I.kept fun b o eo => hk b o (fun hmem => ?_) (Heap.get?_push_of_some _ eo), ?_, q⟩
    · rcases List.mem_cons.mp hmem with e1 | hmem
      · exact absurd (e1 ▸ Heap.lt_size eo) (Nat.lt_irrefl _)
      · cases hmem
    · show Value.bool _ = Value.bool _
      rw [if_pos rfl, ← L2.all_range, List.size_toArray, ← rv.length, t.length]
  · obtain ⟨its, rv, hl, _⟩ := I.tuple hs
    refine call_all_walk (iter_anyT hl fun s₂ e2 st hne => ?_)
    subst e2
    refine ⟨_, _, _, _, _, _, _, rfl, Walks.tuple (A := X.A.in1) (I.ok.hd hc) _ a hne its.toArray, st, truth_flat rv t, fun h' tk hk => ?_⟩
    refine ⟨.bl _, H, I.kept fun b o eo => hk b o (fun hmem => ?_) (Heap.get?_push_of_some _ eo), ?_, q⟩
    · rcases List.mem_cons.mp hmem with e1 | hmem
      · exact absurd (e1 ▸ Heap.lt_size eo) (Nat.lt_irrefl _)
      · cases hmem
    · show Value.bool _ = Value.bool _
      rw [if_pos rfl, ← L2.all_range, List.size_toArray, ← rv.length, t.length]
/-- what is flat as truth values -/
def truD : D → Option Bool
  | .bool b => some b
  | .int i => some (i != 0)
  | _ => none
def truA : List D → Option (List Bool)
  | [] => some []
  | d :: ds => (truD d).bind fun b => (truA ds).map (b :: ·)
theorem truA_ok {K : PySem.W.Frag} {Z : Hp} : ∀ {ds : List D} {vs : List V} {bs : List Bool}, truA ds = some bs → RpA K Z vs ds → TrA vs bs
  | [], _, _, e, .nil => by cases e; exact .nil
  | d :: ds, _, _, e, .cons r rs => by
    obtain ⟨b, e1, e2⟩ := Option.bind_eq_some_iff.mp e
    obtain ⟨bs, e3, e4⟩ := Option.map_eq_some_iff.mp e2
    subst e4
    refine .cons ?_ (truA_ok e3 rs)
    unfold truD at e1
    split at e1
    · cases e1; cases r; exact .bl _
    · cases e1; cases r; exact .int _
    · cases e1
def anyV (al : Bool) : List D → Option D
  | [d] => (itemsD d).bind fun ds => (truA ds).map fun bs => .bool (if al then bs.all id else bs.any id)
  | _ => none
theorem anyV_rd {al : Bool} (vs : List V) (ds : List D) (d : D) (S : List Slot) (σ : Sg) (c : Cfg) (Q : VK) (e : anyV al ds = some d) (hh : Holds X.K S σ c) (rs : LoA X.K c vs ds) (q : ∀ c' v, Stp c c' → Holds X.K S σ c' → Rp X.K c'.Z v d → Q v c'.H) : rAnyV X.K al vs c.H Q := by
  unfold anyV at e
  split at e
  · obtain ⟨es, e1, e2⟩ := Option.bind_eq_some_iff.mp e
    obtain ⟨bs, e3, e4⟩ := Option.map_eq_some_iff.mp e2
    subst e4
    obtain ⟨v, rfl, r⟩ := rs.one
    unfold itemsD at e1
    split at e1
    · cases e1
      obtain ⟨a, xs, rfl, a1, r1⟩ := r.lstI hh.zh
      exact ⟨a, xs, bs, rfl, .inl (SqL.of a1), truA_ok e3 r1, q c _ (Stp.refl _) hh (.bl _)⟩
    · cases e1
      obtain ⟨a, xs, rfl, a1, r1⟩ := r.tupI
      exact ⟨a, xs, bs, rfl, .inr (sameT hh.zh a1), truA_ok e3 r1, q c _ (Stp.refl _) hh (.bl _)⟩
    · cases e1
  · cases e
theorem cd_anyV (hc : X.calm = true) : CallD X W (.builtin "any") (anyV false) := ⟨_, cr_anyV hc, anyV_rd⟩
theorem cd_allV (hc : X.calm = true) : CallD X W (.builtin "all") (anyV true) := ⟨_, cr_allV hc, anyV_rd⟩
end
end FW

/-! FwO: instances: attributes, methods, making. -/
namespace FW
open PySem PySem.Spec L2
open PyProof.Rows hiding St
def fldD (cls f : Str) : D → Option D
  | .dict ((.list [], .str c) :: es) => if c = cls then esGet es (.str f) else none
  | _ => none
/-- an instance of the class without an attribute m -/
def isOb (cls m : Str) : D → Bool
  | .dict ((.list [], .str c) :: es) => decide (c = cls) && (esGet es (.str m)).isNone
  | _ => false
theorem fs_get {K : PySem.W.Frag} {Z : Hp} (f : Str) : ∀ {ns : List Str} {vs : List V} {ds : List D}, ns.length = ds.length → RpA K Z vs ds → RpO K Z ((ns.zip vs).lookup f) (esGet ((ns.map PyData.str).zip ds) (.str f))
  | [], _, _, _, _ => by simp [esGet]; exact .no
  | _ :: _, _, [], h, _ => by simp at h
  | n :: ns, _, d :: ds, h, .cons (v := v) (vs := vs) r rs => by
    have ih := fs_get f (ns := ns) (ds := ds) (by simpa using h) rs
    rw [List.zip_cons_cons, List.map_cons, List.zip_cons_cons]
    unfold esGet at ih ⊢
    by_cases e : n = f
    · subst e
      rw [List.lookup_cons_self, List.find?_cons_of_pos (by simp [sameK, sameK1])]
      exact .so r
    · have e1 : (f == n) = false := by
        rw [beq_eq_false_iff_ne]
        exact fun z => e z.symm
      rw [List.lookup_cons, e1, List.find?_cons_of_neg (by simp [sameK, sameK1, e])]
      exact ih
theorem Rp.obI {K : PySem.W.Frag} {Z : Hp} {v : V} {c : Str} {es : List (D × D)} (h : Rp K Z v (.dict ((.list [], .str c) :: es))) :
    ∃ (a dx : Addr) (ns : List Str) (vs : List V) (ds : List D), v = .ref a ∧ es = (ns.map PyData.str).zip ds ∧ Z a = some (.ins (He.ga K c) dx (ns.zip vs)) ∧ Z dx = some (.own a) ∧ ns.length = ds.length ∧ RpA K Z vs ds := by
  generalize ed : PyData.dict ((.list [], .str c) :: es) = d at h
  cases h with
  | @dk a o ks vs es' h1 h2 h3 =>
    exfalso
    injection ed with ed
    cases ks with
    | nil => simp at ed
    | cons k ks =>
      cases es' with
      | nil => simp at ed
      | cons e es' =>
        rw [List.map_cons, List.zip_cons_cons] at ed
        injection ed with e1 e2
        injection e1 with e3 e4
        cases k <;> cases e3
  | dt h1 h2 h3 =>
    exfalso
    injection ed with ed
    injection ed with e1 e2
    injection e1 with e3 e4
    injection e3 with e5
    cases e5
  | @ob a dx cls ns vs ds h1 h2 h3 h4 =>
    unfold obD at ed
    injection ed with ed
    injection ed with e1 e2
    injection e1 with e3 e4
    injection e4 with e5
    subst e5 e2
    exact ⟨_, _, _, _, _, rfl, rfl, h1, h2, h3, h4⟩
  | _ => cases ed
theorem fldD_some {cls f : Str} {d x : D} (e : fldD cls f d = some x) : ∃ es, d = .dict ((.list [], .str cls) :: es) ∧ esGet es (.str f) = some x := by
  unfold fldD at e
  split at e
  · split at e
    · rename_i c es h
      subst h
      exact ⟨es, rfl, e⟩
    · cases e
  · cases e
theorem isOb_some {cls m : Str} {d : D} (e : isOb cls m d = true) : ∃ es, d = .dict ((.list [], .str cls) :: es) ∧ esGet es (.str m) = none := by
  unfold isOb at e
  split at e
  · rename_i c es
    rw [Bool.and_eq_true] at e
    have h := of_decide_eq_true e.1
    subst h
    exact ⟨es, rfl, Option.isNone_iff_eq_none.mp e.2⟩
  · cases e
section
variable {X : Cx} {W : WX} {pos apos : Pos} {e o : Expr} {es : List Expr} {fe fo : EM D} {fa : EM (List D)}
/-- e.f -/
theorem de_fld {cls f : Str} (c : Cls X.K (He.ga X.K cls)) (n : NoAttr X.K (He.ga X.K cls) f) (he : DE X W e fe) (hb : attributeBase e f X.env (eval e X.env) = eval e X.env := by rfl) : DE X W (.Attribute e f pos) (eUn (fldD cls f) fe) := by
  refine PE.wk (pe_fld he hb) fun σ H Q q => ?_
  obtain ⟨S, Z, F, h, q⟩ := q
  refine ⟨S, Z, F, h, (Go.bind q).mono fun a S1 c1 s1 h1 q1 v rv => ?_⟩
  obtain ⟨d, e1, k⟩ := Go.opt q1
  obtain ⟨es, rfl, e2⟩ := fldD_some e1
  obtain ⟨p, dx, ns, vs, ds, rfl, rfl, z1, z2, hl, r⟩ := rv.obI
  have g := fs_get f hl r
  rw [e2] at g
  obtain ⟨u, e3, ru⟩ := g.some
  exact ⟨p, _, dx, _, u, rfl, h1.zh _ _ z1, c, n, e3, k c1 (Stp.refl _) h1 u ru⟩
/-- a method as it may be called -/
def CalM (P : Program) (w : World) (K : PySem.W.Frag) (mg : Str → Option Value) (base : Heap) (cls m : Str) (ps : List Str) (k : Nat) (sp : Sp) : Prop :=
  ∃ f fd, FnOk P w K mg base CX0 k f fd ps sp ∧ Cls K (He.ga K cls) ∧ Meth K (He.ga K cls) m f ∧ L2.Binds K fd ps []
/-- o.m(..) -/
def eMeth (cls m : Str) (k : Nat) (g : List D → Rs) (fo : EM D) (fa : EM (List D)) : EM D := eBind fo fun d => if isOb cls m d then eBind fa fun ds => if ds.length = k then rs0 (g (d :: ds)) else fun _ => .bad else fun _ => .bad
theorem meth_rd {cls m : Str} {k : Nat} {g : List D → Rs} (σ : Sg) (H : Hp) (Q : VK) (q : tD (gx X W) (eMeth cls m k g fo fa) σ H Q) : tMeth (He.ga X.K cls) m (spD0 X.K (k + 1) g) [] E0 (tD (gx X W) fo) (tDs (gx X W) fa) σ H Q := by
  obtain ⟨S, Z, F, h, q⟩ := q
  refine ⟨S, Z, F, h, (Go.bind q).mono fun d S1 c1 s1 h1 q1 v rv => ?_⟩
  split at q1
  rotate_left
  · exact q1.elim
  rename_i ho
  obtain ⟨es, rfl, e2⟩ := isOb_some ho
  obtain ⟨p, dx, ns, vs, ds, rfl, rfl, z1, z2, hl, r⟩ := rv.obI
  have gg := fs_get m hl r
  rw [e2] at gg
  have e3 : (ns.zip vs).lookup m = none := by
    cases q : (ns.zip vs).lookup m with
    | none => rfl
    | some u =>
      rw [q] at gg
      cases gg
  refine ⟨p, dx, _, rfl, h1.zh _ _ z1, e3, S1, c1.Z, c1.F, h1, (Go.bind q1).mono fun as S2 c2 s2 h2 q2 us ru => ?_⟩
  by_cases hk : as.length = k
  · rw [if_pos hk] at q2
    refine ⟨_ :: as, c2.Z, by simp [hk], h2.zh, by rw [List.append_nil]; exact .cons (rv.mono s2.z) ru, ?_⟩
    split
    · rename_i d' eg
      rw [eg] at q2
      intro c' v st z rv
      obtain ⟨s3, h3⟩ := h2.afterC st z
      exact q2 _ s3 h3 v rv
    · rename_i hne
      cases eg : g (PyData.dict ((PyData.list [], PyData.str cls) :: (List.map PyData.str ns).zip ds) :: as) with
      | ok d' => exact absurd eg (hne d')
      | ex y => rw [eg] at q2; exact q2.elim
      | bad => rw [eg] at q2; exact q2.elim
  · rw [if_neg hk] at q2
    exact q2.elim
theorem de_meth {cls m : Str} {kk k : Nat} {ps : List Str} {g : List D → Rs} {pl : Sem Bool} (C : CalM X.prog X.w X.K X.mg X.base cls m ps kk (spD0 X.K (k + 1) g)) (hr : Room kk X.A) (ho : DE X W o fo) (ha : DA X W (e :: es) fa)
    (hst : starEach (e :: es) X.env = (false, eval e X.env) :: starEach es X.env := by rfl) (hpl : (backTo pos (starEach es X.env)).any (·.1) = false := by rfl)
    (ht : eval (.Call (.Attribute o m apos) (e :: es) [] pos) X.env = (do
      let ov ← eval o X.env
      standAt apos.atName
      let (f, first) ← holding [ov] (getMethod ov m pl)
      callWith pos f first (backTo pos (starEach (e :: es) X.env)) (backToKw pos (keywordEach [] X.env))) := by rfl) : DE X W (.Call (.Attribute o m apos) (e :: es) [] pos) (eMeth cls m k g fo fa) := by
  obtain ⟨f, fd, F, c, hm, hb⟩ := C
  exact PE.wk (pe_meth (E := E0) ho c hm F hr hb .nil pass0 ha hst hpl ht) meth_rd
theorem de_meth0 {cls m : Str} {kk : Nat} {ps : List Str} {g : List D → Rs} {pl : Sem Bool} (C : CalM X.prog X.w X.K X.mg X.base cls m ps kk (spD0 X.K (0 + 1) g)) (hr : Room kk X.A) (ho : DE X W o fo)
    (ht : eval (.Call (.Attribute o m apos) [] [] pos) X.env = (do
      let ov ← eval o X.env
      standAt apos.atName
      let (f, first) ← holding [ov] (getMethod ov m pl)
      callWith pos f first (backTo pos (starEach [] X.env)) (backToKw pos (keywordEach [] X.env))) := by rfl) : DE X W (.Call (.Attribute o m apos) [] [] pos) (eMeth cls m 0 g fo aNil) := by
  obtain ⟨f, fd, F, c, hm, hb⟩ := C
  refine PE.wk (pe_meth0 (E := E0) ho c hm F hr hb .nil pass0 ht) fun σ H Q q => ?_
  have q2 := meth_rd σ H Q q
  obtain ⟨S, Z, F, h, q2⟩ := q2
  refine ⟨S, Z, F, h, q2.mono fun d S1 c1 s1 h1 q3 v rv => ?_⟩
  obtain ⟨p, dx, fs, e1, e2, e3, q4⟩ := q3 v rv
  refine ⟨p, dx, fs, e1, e2, e3, ?_⟩
  obtain ⟨S2, Z2, F2, h2, q5⟩ := q4
  exact q5 _ (Stp.refl _) h2 [] .nil
/-! ### an instance while it is made -/
theorem Holds.objAt {K : PySem.W.Frag} {S : List Slot} {σ : Sg} {c : Cfg} {i : Nat} {a dx : Addr} {cls : Str} {ns : List Str} {ds : List D} (h : Holds K S σ c) (e : S[i]? = some (.obj a dx cls ns ds)) :
    ∃ vs, σ[i]? = some (some (V.ref a)) ∧ c.H a = some (.ins (He.ga K cls) dx (ns.zip vs)) ∧ c.H dx = some (.own a) ∧ ns.length = ds.length ∧ RpA K c.Z vs ds ∧ a ∈ c.F ∧ dx ∈ c.F ∧ a ≠ dx ∧
      ∀ ns' ds' vs', ns'.length = ds'.length → RpA K c.Z vs' ds' → Stp c ⟨c.Z, upd c.H a (.ins (He.ga K cls) dx (ns'.zip vs')), c.F⟩ ∧ Holds K (S.set i (.obj a dx cls ns' ds')) σ ⟨c.Z, upd c.H a (.ins (He.ga K cls) dx (ns'.zip vs')), c.F⟩ := by
  obtain ⟨A, Fi, B, x, e1, e2, ⟨vs, e3, e4, e5, e6, e7, e8⟩, up⟩ := h.l.at e
  subst e3 e4
  have aF : a ∈ c.F := by rw [e1]; simp
  have dF : dx ∈ c.F := by rw [e1]; simp
  have nd := h.nd
  have ne : a ≠ dx := by
    rw [e1] at nd
    rintro rfl
    simp only [List.nodup_append, List.nodup_cons, List.mem_append, List.mem_cons] at nd
    grind
  refine ⟨vs, e2, e5, e6, e7, e8, aF, dF, ne, fun ns' ds' vs' hl r => ⟨⟨Same.refl _, fun b o q hn => (upd_ne (show b ≠ a from fun z => hn (z ▸ aF))).trans q, fun b o q => ?_, fun b o q => .inl q, fun b m => .inl m⟩, ⟨?_, h.nd, h.zf, fun b o q => ?_⟩⟩⟩
  · by_cases hb : b = a
    · subst hb
      exact ⟨_, upd_same⟩
    · exact ⟨o, (upd_ne hb).trans q⟩
  · have q := up ⟨c.Z, upd c.H a (.ins (He.ga K cls) dx (ns'.zip vs')), c.F⟩ (.obj a dx cls ns' ds') (some (.ref a)) [a, dx] (Same.refl _) (fun b m => upd_ne (show b ≠ a by
      rintro rfl
      rw [e1] at nd
      simp only [List.nodup_append, List.nodup_cons, List.mem_append, List.mem_cons] at nd m
      grind)) ⟨vs', rfl, rfl, upd_same, (upd_ne (Ne.symm ne)).trans e6, hl, r⟩
    rw [list_set_self e2] at q
    show HoldsL K ⟨c.Z, upd c.H a (.ins (He.ga K cls) dx (ns'.zip vs')), c.F⟩ (S.set i (.obj a dx cls ns' ds')) σ c.F
    have e1' := e1
    generalize c.F = FF at e1' q ⊢
    rw [e1']
    rw [e1'] at q
    exact q
  · have nb : b ≠ a := by
      rintro rfl
      have q' : c.Z b = some o := q
      rw [h.zf b aF] at q'
      cases q'
    exact (upd_ne nb).trans (h.zh b o q)
/-- a new attribute -/
def putO (f : Str) (d : D) : Slot → Option Slot
  | .obj a dx cls ns ds => if ns.contains f || decide (1000 ≤ ns.length) then none else some (.obj a dx cls (ns ++ [f]) (ds ++ [d]))
  | _ => none
theorem putF_zip (f : Str) (y : V) : ∀ {ns : List Str} {vs : List V}, ns.length = vs.length → ns.contains f = false → putF f y (ns.zip vs) = (ns ++ [f]).zip (vs ++ [y])
  | [], [], _, _ => rfl
  | [], _ :: _, h, _ => by simp at h
  | _ :: _, [], h, _ => by simp at h
  | n :: ns, v :: vs, h, hc => by
    rw [List.contains_cons, Bool.or_eq_false_iff] at hc
    have ih := putF_zip f y (ns := ns) (vs := vs) (by simpa using h) hc.2
    rw [List.zip_cons_cons]
    have ne : ¬ n = f := fun z => by
      rw [z] at hc
      simp at hc
    show (if n = f then (n, y) :: ns.zip vs else (n, v) :: putF f y (ns.zip vs)) = _
    rw [if_neg ne, ih]
    rfl
theorem put_rd {S : List Slot} {σ : Sg} {c : Cfg} {i : Nat} {f cls0 : Str} {d : D} {s' : Slot} {y : V} (cl : Cls X.K (He.ga X.K cls0)) (na : NoAttr X.K (He.ga X.K cls0) f) (h : Holds X.K S σ c) (hc : ∀ a dx cls ns ds, S[i]? = some (.obj a dx cls ns ds) → cls = cls0)
    (e : ((S[i]?).bind (putO f d)) = some s') (ry : Rp X.K c.Z y d) :
    ∃ a C dx fs, σ[i]? = some (some (V.ref a)) ∧ c.H a = some (.ins C dx fs) ∧ Cls X.K C ∧ NoAttr X.K C f ∧ fs.length < 1000 ∧ ∃ c', Stp c c' ∧ Holds X.K (S.set i s') σ c' ∧ c'.H = upd c.H a (.ins C dx (putF f y fs)) := by
  obtain ⟨s, e1, e2⟩ := Option.bind_eq_some_iff.mp e
  unfold putO at e2
  split at e2
  · rename_i a dx cls ns ds
    have hcl := hc _ _ _ _ _ e1
    subst hcl
    split at e2
    · cases e2
    · rename_i hg
      rw [Bool.or_eq_true, not_or, decide_eq_true_iff] at hg
      cases e2
      obtain ⟨vs, e3, e4, e5, e6, e7, _, _, _, back⟩ := h.objAt e1
      have hl := e7.length
      obtain ⟨st, hh⟩ := back (ns ++ [f]) (ds ++ [d]) (vs ++ [y]) (by simp [e6]) (e7.append (.cons ry .nil))
      refine ⟨a, _, dx, _, e3, e4, cl, na, ?_, _, st, hh, ?_⟩
      · rw [List.length_zip]
        omega
      · rw [putF_zip f y (by omega) (by simpa using hg.1)]
  · cases e2
def clsAt (cls0 : Str) (S : List Slot) (i : Nat) : Bool := match S[i]? with
  | some (.obj _ _ cls _ _) => decide (cls = cls0)
  | _ => true
theorem clsAt_ok {cls0 : Str} {S : List Slot} {i : Nat} (h : clsAt cls0 S i = true) : ∀ a dx cls ns ds, S[i]? = some (.obj a dx cls ns ds) → cls = cls0 := by
  intro a dx cls ns ds e
  unfold clsAt at h
  rw [e] at h
  exact of_decide_eq_true h
/-- self.f = e -/
def sFldSet (i : Nat) (cls f : Str) (fe : EM D) : SM := sOf fe fun d S => if clsAt cls S i then (match (S[i]?).bind (putO f d) with
  | some s' => .nx (S.set i s')
  | none => .bad) else .bad
variable {x : Str} {p : Pos}
theorem ds_fld (i : Nat) {cls f : Str} {apos' : Pos} {value : Expr} (cl : Cls X.K (He.ga X.K cls)) (na : NoAttr X.K (He.ga X.K cls) f) (hv : DE X W value fe) (hN : X.N[i]? = some x := by rfl) (hvis : Vis X.env.scope x := by first | exact Or.inl rfl | exact Or.inr (Or.inl rfl) | exact Or.inr (Or.inr rfl)) (hd : (x == ("__debug__" : Str)) = false := by decide) (hcd : (x == ("__classdict__" : Str)) = false := by decide)
    (hs : swapsWith value (some (.Attribute (.Name x p) f apos')) pos.line X.env = pure false := by rfl) : DS X W (.Assign [.Attribute (.Name x p) f apos'] value pos) (sFldSet i cls f fe) := by
  refine PS.wk (ps_fld (pe_var hN hvis hd hcd) hv hs) fun Q σ H q => ?_
  obtain ⟨S, Z, F, h, q⟩ := q
  refine ⟨S, Z, F, h, Go.toS q fun d S1 c1 s1 h1 q1 y ry => ?_⟩
  split at q1
  rotate_left
  · exact q1.elim
  rename_i hc
  split at q1
  · rename_i s' e1
    obtain ⟨a, C, dx, fs, e2, e3, e4, e5, e6, c', st, hh, e7⟩ := put_rd cl na h1 (clsAt_ok hc) e1 ry
    refine ⟨.ref a, e2, a, C, dx, fs, rfl, e3, e4, e5, e6, ?_⟩
    rw [← e7]
    exact q1 _ c' st hh
  · exact q1.elim
/-- .. as a target -/
def gAttr (K : PySem.W.Frag) (ta : TE) (f : Str) : TG := fun v σ H Q => ta σ H fun x H1 => ∃ a C dx fs, x = .ref a ∧ H1 a = some (.ins C dx fs) ∧ Cls K C ∧ NoAttr K C f ∧ fs.length < 1000 ∧ Q σ (upd H1 a (.ins C dx (putF f v fs)))
theorem pg_fld {f : Str} {ta : TE} (ha : PE X o ta) : PG X (.Attribute o f pos) (gAttr X.K ta f) := by
  refine ⟨fun pins s σ H v u Q I r h => ?_⟩
  refine PySem.W.kas_attr (thn (ha.run pins s σ H _ I h) fun ov s1 ⟨x, H1, I1, rx, a, C, dx, fs, ex, ea, c, n, l, q⟩ => ?_)
  subst ex
  obtain rfl : ov = Value.ref a := rx
  exact setattr_ok I1 ea c n l r fun s2 I2 => ⟨σ, _, I2, q⟩
def gFld (i : Nat) (cls f : Str) : Tg := fun d S => if clsAt cls S i then ((S[i]?).bind (putO f d)).map fun s' => S.set i s' else none
theorem dg_fld (i : Nat) {cls f : Str} (cl : Cls X.K (He.ga X.K cls)) (na : NoAttr X.K (He.ga X.K cls) f) (hN : X.N[i]? = some x := by rfl) (hvis : Vis X.env.scope x := by first | exact Or.inl rfl | exact Or.inr (Or.inl rfl) | exact Or.inr (Or.inr rfl)) (hd : (x == ("__debug__" : Str)) = false := by decide) (hcd : (x == ("__classdict__" : Str)) = false := by decide) :
    DG X W (.Attribute (.Name x p) f pos) [] (gFld i cls f) := by
  refine PG.wk (pg_fld (pe_var hN hvis hd hcd)) fun v σ H Q q => ?_
  obtain ⟨S, Z, F, d, S', h, rd, e, q⟩ := q
  unfold gFld at e
  split at e
  rotate_left
  · cases e
  rename_i hc
  obtain ⟨s', e1, e8⟩ := Option.map_eq_some_iff.mp e
  subst e8
  obtain ⟨a, C, dx, fs, e2, e3, e4, e5, e6, c', st, hh, e7⟩ := put_rd cl na h (clsAt_ok hc) e1 rd
  refine ⟨.ref a, e2, a, C, dx, fs, rfl, e3, e4, e5, e6, ?_⟩
  have q2 := q σ c' st hh (Only.refl _ _)
  rw [e7] at q2
  exact q2
/-- a method of the instance while it is made; a number comes back -/
def eMethO (i : Nat) (cls m : Str) (k : Nat) (g : List D → Rs) (fa : EM (List D)) : EM D := fun S0 => match S0[i]? with
  | some (.obj _ _ c ns _) => if c = cls ∧ ns.contains m = false then eBind fa (fun as S => match S[i]? with
    | some (.obj _ _ c ns ds) => if c = cls ∧ as.length = k then (match g (obD c ns ds :: as) with
      | .ok (.int n) => .ok (.int n) S
      | _ => .bad) else .bad
    | _ => .bad) S0 else .bad
  | _ => .bad
theorem zip_lookup_none {m : Str} : ∀ {ns : List Str} {vs : List V}, ns.contains m = false → (ns.zip vs).lookup m = none
  | [], _, _ => rfl
  | _ :: _, [], _ => rfl
  | n :: ns, v :: vs, h => by
    rw [List.contains_cons, Bool.or_eq_false_iff] at h
    rw [List.zip_cons_cons, List.lookup_cons, h.1]
    exact zip_lookup_none h.2
theorem de_methO (i : Nat) {cls m : Str} {kk k : Nat} {ps : List Str} {g : List D → Rs} {pl : Sem Bool} (C : CalM X.prog X.w X.K X.mg X.base cls m ps kk (spD0 X.K (k + 1) g)) (hr : Room kk X.A) (ha : DA X W (e :: es) fa)
    (hN : X.N[i]? = some x := by rfl) (hvis : Vis X.env.scope x := by first | exact Or.inl rfl | exact Or.inr (Or.inl rfl) | exact Or.inr (Or.inr rfl)) (hd : (x == ("__debug__" : Str)) = false := by decide) (hcd : (x == ("__classdict__" : Str)) = false := by decide)
    (hst : starEach (e :: es) X.env = (false, eval e X.env) :: starEach es X.env := by rfl) (hpl : (backTo pos (starEach es X.env)).any (·.1) = false := by rfl)
    (ht : eval (.Call (.Attribute (.Name x p) m apos) (e :: es) [] pos) X.env = (do
      let ov ← eval (.Name x p) X.env
      standAt apos.atName
      let (f, first) ← holding [ov] (getMethod ov m pl)
      callWith pos f first (backTo pos (starEach (e :: es) X.env)) (backToKw pos (keywordEach [] X.env))) := by rfl) : DE X W (.Call (.Attribute (.Name x p) m apos) (e :: es) [] pos) (eMethO i cls m k g fa) := by
  obtain ⟨f, fd, FF, c, hm, hb⟩ := C
  refine PE.wk (pe_meth (E := E0) (pe_var hN hvis hd hcd) c hm FF hr hb .nil pass0 ha hst hpl ht) fun σ H Q q => ?_
  obtain ⟨S, Z, F, h, q⟩ := q
  unfold eMethO at q
  split at q
  rotate_left
  · exact q.elim
  rename_i a dx c0 ns ds e0
  split at q
  rotate_left
  · exact q.elim
  rename_i hc
  obtain ⟨rfl, hc2⟩ := hc
  obtain ⟨vs, e2, e3, e4, e5, e6, _⟩ := h.objAt e0
  refine ⟨.ref a, e2, a, dx, _, rfl, e3, zip_lookup_none hc2, S, Z, F, h, (Go.bind q).mono fun as S2 c2 s2 h2 q2 us ru => ?_⟩
  split at q2
  rotate_left
  · exact q2.elim
  rename_i a2 dx2 c3 ns2 ds2 e7
  split at q2
  rotate_left
  · exact q2.elim
  rename_i hk
  obtain ⟨rfl, hk⟩ := hk
  obtain ⟨vs2, e8, e9, e10, e11, e12, aF, dF, ne, _⟩ := h2.objAt e7
  rw [e2] at e8
  cases e8
  have za : c2.Z a = none := h2.zf a aF
  have zd : c2.Z dx2 = none := h2.zf dx2 dF
  have sm1 : Same c2.Z (upd c2.Z a (.ins (He.ga X.K c3) dx2 (ns2.zip vs2))) := same_upd za
  have zd1 : (upd c2.Z a (.ins (He.ga X.K c3) dx2 (ns2.zip vs2))) dx2 = none := (upd_ne (Ne.symm ne)).trans zd
  have sm2 : Same c2.Z (upd (upd c2.Z a (.ins (He.ga X.K c3) dx2 (ns2.zip vs2))) dx2 (.own a)) := sm1.trans (same_upd zd1)
  have za2 : (upd (upd c2.Z a (.ins (He.ga X.K c3) dx2 (ns2.zip vs2))) dx2 (.own a)) a = some (.ins (He.ga X.K c3) dx2 (ns2.zip vs2)) := (upd_ne ne).trans upd_same
  refine ⟨obD c3 ns2 ds2 :: as, upd (upd c2.Z a (.ins (He.ga X.K c3) dx2 (ns2.zip vs2))) dx2 (.own a), by simp [hk], fun b o q => ?_, ?_, ?_⟩
  · by_cases hb1 : b = dx2
    · subst hb1
      rw [upd_same] at q
      cases q
      exact e10
    · rw [upd_ne hb1] at q
      by_cases hb2 : b = a
      · subst hb2
        rw [upd_same] at q
        cases q
        exact e9
      · rw [upd_ne hb2] at q
        exact h2.zh b o q
  · rw [List.append_nil]
    exact .cons (.ob za2 upd_same e11 (e12.mono sm2)) (ru.mono sm2)
  · split at q2
    · rename_i n eg
      rw [eg]
      intro c' v st z rv
      cases rv
      have kk : ∀ b o, c2.H b = some o → c'.H b = some o := fun b o q => st.k b o q (by simp)
      have hh : Holds X.K S2 σ ⟨c2.Z, c'.H, c2.F⟩ := by
        refine ⟨HoldsL.tr (c := c2) (c' := ⟨c2.Z, c'.H, c2.F⟩) (Same.refl _) h2.l fun b m => ?_, h2.nd, h2.zf, fun b o q => kk b o (h2.zh b o q)⟩
        obtain ⟨o, q, _⟩ := h2.l.own b m
        show c'.H b = c2.H b
        rw [kk b o q, q]
      exact q2 ⟨c2.Z, c'.H, c2.F⟩ ⟨Same.refl _, fun b o q _ => kk b o q, fun b o q => ⟨o, kk b o q⟩, fun b o q => .inl q, fun b m => .inl m⟩ hh _ (.int n)
    · exact q2.elim
/-! ### __init__ -/
def outI (a dx : Addr) (cls : Str) : Out → Option (List Str × List D)
  | .nx (.obj a' dx' c ns ds :: _) => if a' = a ∧ dx' = dx ∧ c = cls then some (ns, ds) else none
  | _ => none
def runI (n : Nat) (body : SM) (cls : Str) (a dx : Addr) (ds : List D) : Option (List Str × List D) := outI a dx cls (body (.obj a dx cls [] [] :: startS ds (n - 1)))
def spI (K : PySem.W.Frag) (cls : Str) (m : Nat) (g : Addr → Addr → List D → Option (List Str × List D)) : Sp := fun vs H Q _ => ∃ a dx vs' ds Z, vs = .ref a :: vs' ∧ ds.length + 1 = m ∧ H a = some (.ins (He.ga K cls) dx []) ∧ H dx = some (.own a) ∧ a ≠ dx ∧ Z a = none ∧ Z dx = none ∧ Same Z H ∧ RpA K Z vs' ds ∧
  match g a dx ds with
  | some (ns, fs) => ∀ c' us, Stp ⟨Z, H, [a, dx]⟩ c' → Same c'.Z c'.H → c'.Z a = none → c'.Z dx = none → c'.H a = some (.ins (He.ga K cls) dx (ns.zip us)) → c'.H dx = some (.own a) → ns.length = fs.length → RpA K c'.Z us fs → Q .non c'.H
  | none => False
end
section
variable {P : Program} {w : World} {K : PySem.W.Frag} {mg : Str → Option Value} {base : Heap}
theorem ok_I {x qual : Str} {st : Stmt} {f : Addr} {fd : FuncData} {N ps : List Str} {k : Nat} {body : SM} (cls : Str) (F : Fun K x qual st f fd) (S : FnScope N ps (defScope st)) (hN : 0 < N.length)
    (hb : ∀ (cdv : Value) (A : Around) (outer : List Env) (s : Shared) (H : Hp) (E : XK), Room k (A.deeper (envOfC qual (defScope st) s.heap.objs.size f cdv)) →
      DSs (cxOf CX0 P w K mg base N qual (defScope st) f cdv A outer s H E).nox W0 (defBody st) body) : FnOk P w K mg base CX0 (k + 1) f fd ps (spI K cls ps.length (runI N.length body cls)) := by
  refine F.ok S (fun vs H Q E h => ?_) (fun cdv A outer s H vs Q E hr h => ?_)
  · obtain ⟨a, dx, vs', ds, Z, rfl, hl, _, _, _, _, _, _, r, _⟩ := h
    rw [List.length_cons, r.length]
    exact hl
  · obtain ⟨a, dx, vs', ds, Z, rfl, hl, ha, hd, ne, za, zd, zh, r, q⟩ := h
    have e0 : L2.start N (.ref a :: vs') = some (.ref a) :: (vs'.map some ++ List.replicate (N.length - 1 - vs'.length) none) := by
      unfold L2.start
      rw [List.map_cons, List.cons_append, List.length_cons]
      congr 3
      omega
    have hst : Holds K (.obj a dx cls [] [] :: startS ds (N.length - 1)) (L2.start N (.ref a :: vs')) ⟨Z, H, [a, dx]⟩ := by
      refine ⟨?_, by simp [ne], fun b m => ?_, zh⟩
      · rw [e0]
        have q : HoldsL K ⟨Z, H, [a, dx]⟩ (.obj a dx cls [] [] :: startS ds (N.length - 1)) (some (.ref a) :: (vs'.map some ++ List.replicate (N.length - 1 - vs'.length) none)) ([a, dx] ++ []) := by
          refine .cons ⟨[], rfl, rfl, ha, hd, rfl, .nil⟩ ?_
          unfold startS
          rw [r.length]
          exact startL (c := ⟨Z, H, [a, dx]⟩) _ r
        exact q
      · have m' : b = a ∨ b = dx := by simpa using m
        rcases m' with z | z
        · rw [z]; exact za
        · rw [z]; exact zd
    refine ⟨_, hb cdv A outer s H E hr, _, Z, [a, dx], hst, ?_⟩
    unfold runI outI at q
    cases e : body (.obj a dx cls [] [] :: startS ds (N.length - 1)) with
    | nx S' =>
      rw [e] at q
      match S', q with
      | [], q => exact q.elim
      | .un :: _, q => exact q.elim
      | .dat _ :: _, q => exact q.elim
      | .own _ :: _, q => exact q.elim
      | .dic _ _ :: _, q => exact q.elim
      | .drw _ _ _ :: _, q => exact q.elim
      | .obj a' dx' c ns fs :: S', q =>
        by_cases ea : a' = a ∧ dx' = dx ∧ c = cls
        · obtain ⟨rfl, rfl, rfl⟩ := ea
          simp only [and_self, if_true] at q
          intro σ' c' st' h'
          obtain ⟨us, e2, e3, e4, e5, e6, aF, dF, _⟩ := h'.objAt (i := 0) rfl
          exact q c' us st' h'.zh (h'.zf _ aF) (h'.zf _ dF) e3 e4 e5 e6
        · simp only [if_neg ea] at q
    | rt d S' => rw [e] at q; exact q.elim
    | bk S' => rw [e] at q; exact q.elim
    | ct S' => rw [e] at q; exact q.elim
    | ex x S' => rw [e] at q; exact q.elim
    | bad => rw [e] at q; exact q.elim
end
section
variable {X : Cx} {W : WX} {pos p : Pos} {e : Expr} {es : List Expr} {fa : EM (List D)} {x : Str}
/-- the class as it may be called -/
def CalI (P : Program) (w : World) (K : PySem.W.Frag) (mg : Str → Option Value) (base : Heap) (cls : Str) (ps : List Str) (k : Nat) (sp : Sp) : Prop :=
  ∃ f fd, FnOk P w K mg base CX0 k f fd ps sp ∧ Mk K (He.ga K cls) f ∧ mg cls = some (.ref (He.ga K cls)) ∧ L2.Binds K fd ps []
/-- an instance is made: the numbers at which it lies are taken for nought -/
def eMake (cls : Str) (k : Nat) (g : List D → Option (List Str × List D)) (fa : EM (List D)) : EM D := eBind fa fun ds => if ds.length = k then (match g ds with
  | some (ns, fs) => eRet (obD cls ns fs)
  | none => fun _ => .bad) else fun _ => .bad
theorem de_make {cls : Str} {kk k : Nat} {ps : List Str} {g' : Addr → Addr → List D → Option (List Str × List D)} {g : List D → Option (List Str × List D)} (C : CalI X.prog X.w X.K X.mg X.base cls ps kk (spI X.K cls (k + 1) g')) (hg' : ∀ a dx ds r, g ds = some r → g' a dx ds = some r) (hr : Room (kk + 1) X.A) (ha : DA X W (e :: es) fa) (hg : Gl X cls := by rfl)
    (hdb : (cls == ("__debug__" : Str)) = false := by decide) (he : starEach (e :: es) X.env = (false, eval e X.env) :: starEach es X.env := by rfl) (hpl : (backTo pos (starEach es X.env)).any (·.1) = false := by rfl) : DE X W (.Call (.Name cls p) (e :: es) [] pos) (eMake cls k g fa) := by
  obtain ⟨f, fd, FF, M, hm, hb⟩ := C
  refine PE.wk (pe_make (E := E0) M FF hr hg hm hb .nil pass0 ha hdb he hpl) fun σ H Q q => ?_
  obtain ⟨S, Z, F, h, q⟩ := q
  refine ⟨S, Z, F, h, (Go.bind q).mono fun ds S1 c1 s1 h1 q1 vs rs => ?_⟩
  intro y dx hy hdx ne
  split at q1
  rotate_left
  · exact q1.elim
  rename_i hk
  cases eg : g ds with
  | none => rw [eg] at q1; exact q1.elim
  | some nf =>
    obtain ⟨ns, fs⟩ := nf
    rw [eg] at q1
    have zy : c1.Z y = none := h1.nf hy
    have zd : c1.Z dx = none := h1.nf hdx
    have old : ∀ {b o}, c1.H b = some o → (upd (upd c1.H dx (.own y)) y (.ins (He.ga X.K cls) dx [])) b = some o := fun {b o} q => by
      rw [upd_ne (ne_of_none q hy), upd_ne (ne_of_none q hdx)]
      exact q
    have new : ∀ {b}, (upd (upd c1.H dx (.own y)) y (.ins (He.ga X.K cls) dx [])) b = none → c1.H b = none := fun {b} q => by
      cases z : c1.H b with
      | none => rfl
      | some o =>
        rw [old z] at q
        cases q
    refine ⟨y, dx, vs, ds, c1.Z, by rw [List.append_nil], by simp [hk], upd_same, (upd_ne ne).trans upd_same, Ne.symm ne, zy, zd, fun b o q => old (h1.zh b o q), rs, ?_⟩
    rw [hg' _ _ _ _ eg]
    intro c' us st zh za2 zd2 e3 e4 e5 e6
    refine ⟨rfl, ?_⟩
    have sm1 : Same c'.Z (upd c'.Z y (.ins (He.ga X.K cls) dx (ns.zip us))) := same_upd za2
    have sm2 : Same c'.Z (upd (upd c'.Z y (.ins (He.ga X.K cls) dx (ns.zip us))) dx (.own y)) := sm1.trans (same_upd ((upd_ne ne).trans zd2))
    have kk : ∀ b o, c1.H b = some o → c'.H b = some o := fun b o q => st.k b o (old q) (by
      have n1 : b ≠ y := ne_of_none q hy
      have n2 : b ≠ dx := ne_of_none q hdx
      simp [n1, n2])
    have zn : ∀ b o, c'.Z b = some o → c1.Z b = some o ∨ c1.H b = none ∨ ∃ xs, c1.H b = some (.tup xs) := fun b o q => by
      rcases st.n b o q with z | z | z | ⟨xs, z⟩
      · exact .inl z
      · exact .inr (.inl (new z))
      · have m' : b = y ∨ b = dx := by simpa using z
        rcases m' with z | z
        · rw [z]; exact .inr (.inl hy)
        · rw [z]; exact .inr (.inl hdx)
      · by_cases b1 : b = y
        · rw [b1]; exact .inr (.inl hy)
        · by_cases b2 : b = dx
          · rw [b2]; exact .inr (.inl hdx)
          · have z' : (upd (upd c1.H dx (.own y)) y (.ins (He.ga X.K cls) dx [])) b = some (.tup xs) := z
            rw [upd_ne b1, upd_ne b2] at z'
            exact .inr (.inr ⟨xs, z'⟩)
    have zn2 : ∀ b o, (upd (upd c'.Z y (.ins (He.ga X.K cls) dx (ns.zip us))) dx (.own y)) b = some o → c1.Z b = some o ∨ c1.H b = none ∨ ∃ xs, c1.H b = some (.tup xs) := fun b o q => by
      by_cases b2 : b = dx
      · rw [b2]; exact .inr (.inl hdx)
      · rw [upd_ne b2] at q
        by_cases b1 : b = y
        · rw [b1]; exact .inr (.inl hy)
        · rw [upd_ne b1] at q
          exact zn b o q
    refine q1 ⟨upd (upd c'.Z y (.ins (He.ga X.K cls) dx (ns.zip us))) dx (.own y), c'.H, c1.F⟩ ⟨st.z.trans sm2, fun b o q _ => kk b o q, fun b o q => ⟨o, kk b o q⟩, fun b o q => ?_, fun b m => .inl m⟩ ⟨HoldsL.tr (c := c1) (c' := ⟨_, c'.H, c1.F⟩) (st.z.trans sm2) h1.l fun a m => ?_, h1.nd, fun a m => ?_, fun b o q => ?_⟩ (.ref y) ?_
    · rcases zn2 b o q with z | z | z
      · exact .inl z
      · exact .inr (.inl z)
      · exact .inr (.inr (.inr z))
    · obtain ⟨o, q, _⟩ := h1.l.own a m
      show c'.H a = c1.H a
      rw [kk a o q, q]
    · obtain ⟨o, q, q2⟩ := h1.l.own a m
      show (upd (upd c'.Z y (.ins (He.ga X.K cls) dx (ns.zip us))) dx (.own y)) a = none
      cases z : (upd (upd c'.Z y (.ins (He.ga X.K cls) dx (ns.zip us))) dx (.own y)) a with
      | none => rfl
      | some o2 =>
        rcases zn2 a o2 z with z | z | ⟨xs, z⟩
        · rw [h1.zf a m] at z
          cases z
        · rw [q] at z
          cases z
        · rw [q] at z
          exact absurd (Option.some.inj z) (q2 _)
    · have q' : (upd (upd c'.Z y (.ins (He.ga X.K cls) dx (ns.zip us))) dx (.own y)) b = some o := q
      by_cases b2 : b = dx
      · subst b2
        rw [upd_same] at q'
        cases q'
        exact e4
      · rw [upd_ne b2] at q'
        by_cases b1 : b = y
        · subst b1
          rw [upd_same] at q'
          cases q'
          exact e3
        · rw [upd_ne b1] at q'
          exact zh b o q'
    · exact .ob ((upd_ne (Ne.symm ne)).trans upd_same) upd_same e5 (e6.mono sm2)
end
end FW

/-! FwQ: tables of the module, the head's facts about them; index. -/
namespace FW
open PySem PySem.Spec L2
open PyProof.Rows hiding St
/-! ### facts -/
def tupAt (K : PySem.W.Frag) (v : Value) (ns : List Int) : Bool := match v with
  | .ref T => (match K.lookup T with
    | some ⟨.type c, _, .seq its _, _⟩ => decide (c = "tuple") && decide (its.size ≤ sizeLine) && He.relAll (ns.map V.int) its.toList
    | _ => false)
  | _ => false
def tupB (K : PySem.W.Frag) (x : Str) (ns : List Int) : Bool := tupAt K (.ref (He.ga K x)) ns
theorem tupAt_ok {K : PySem.W.Frag} {v : Value} {ns : List Int} (h : tupAt K v ns = true) : ∃ T, v = .ref T ∧ ∀ H, SqT K H T (ns.map V.int) := by
  unfold tupAt at h
  split at h
  · rename_i T
    split at h
    · rename_i c od its n sl e
      rw [Bool.and_eq_true, Bool.and_eq_true] at h
      obtain ⟨⟨h1, h2⟩, h3⟩ := h
      have e1 : c = "tuple" := of_decide_eq_true h1
      subst e1
      exact ⟨T, rfl, fun H => .inr ⟨_, its, n, e, rfl, rfl, of_decide_eq_true h2, He.relAll_ok h3⟩⟩
    · cases h
  · cases h
theorem dpInts {K : PySem.W.Frag} {H : Hp} : ∀ ns : List Int, DpAll K H (ns.map V.int) (ns.map PyData.int)
  | [] => .nil
  | n :: ns => .cons (.int n) (dpInts ns)
theorem tupB_ok {K : PySem.W.Frag} {x : Str} {ns : List Int} (h : tupB K x ns = true) : ∀ Z, Dp K Z (.ref (He.ga K x)) (.tuple (ns.map PyData.int)) := fun Z => by
  obtain ⟨T, e, q⟩ := tupAt_ok h
  cases e
  exact .tup (q Z) (dpInts ns)
def tabAll (K : PySem.W.Frag) : List DictEntry → List (Int × List Int) → Bool
  | [], [] => true
  | e :: es, (i, ns) :: tab => (match e.key with | .int j _ => decide (j = i) | _ => false) && decide (e.hash = hashInt i) && tupAt K e.val ns && tabAll K es tab
  | _, _ => false
def tabB (K : PySem.W.Frag) (x : Str) (tab : List (Int × List Int)) : Bool := match K.lookup (He.ga K x) with
  | some ⟨.type c, none, .dict es _, osl⟩ => decide (c = "dict") && (osl.isEmpty && !(He.ga K x == sysModules)) && tabAll K es.toList tab
  | _ => false
/-- a dict of the module: numbers to tuples of numbers -/
structure KTab (K : PySem.W.Frag) (a : Addr) (es : Array DictEntry) (tab : List (Int × List Int)) : Prop where
  at_ : ∃ n, K.lookup a = some ⟨.type "dict", none, .dict es n, #[]⟩
  ns : (a == sysModules) = false
  al : tabAll K es.toList tab = true
theorem tabB_ok {K : PySem.W.Frag} {x : Str} {tab : List (Int × List Int)} (h : tabB K x tab = true) : ∃ es, KTab K (He.ga K x) es tab := by
  unfold tabB at h
  split at h
  · rename_i c es n osl e
    rw [Bool.and_eq_true, Bool.and_eq_true, Bool.and_eq_true] at h
    obtain ⟨⟨h1, h2, h3⟩, h4⟩ := h
    have e1 : c = "dict" := of_decide_eq_true h1
    have e2 : osl = #[] := Array.isEmpty_iff.mp h2
    subst e1 e2
    refine ⟨es, ⟨n, e⟩, ?_, h4⟩
    cases q : He.ga K x == sysModules with
    | false => rfl
    | true => rw [q] at h3; cases h3
  · cases h
theorem tabAll_keys {K : PySem.W.Frag} {P : Program} {w : World} : ∀ {es : List DictEntry} {tab : List (Int × List Int)}, tabAll K es tab = true → ∀ e ∈ es, ∃ k, (mixKind P w).is k e.key = true ∧ e.hash = (mixKind P w).hash k
  | [], [], _, e, m => by simp at m
  | e0 :: es, (i, ns) :: tab, h, e, m => by
    unfold tabAll at h
    rw [Bool.and_eq_true, Bool.and_eq_true, Bool.and_eq_true] at h
    obtain ⟨⟨⟨h1, h2⟩, h3⟩, h4⟩ := h
    rcases List.mem_cons.mp m with z | m
    · subst z
      split at h1
      · rename_i j t ek
        have e1 : j = i := of_decide_eq_true h1
        subst e1
        refine ⟨.inl j, ?_, of_decide_eq_true h2⟩
        rw [ek]
        exact keyIs_int j t
      · cases h1
    · exact tabAll_keys h4 e m
  | [], _ :: _, h, _, _ => by cases h
  | _ :: _, [], h, _, _ => by cases h
theorem tabAll_find {K : PySem.W.Frag} (i : Int) : ∀ {es : List DictEntry} {tab : List (Int × List Int)}, tabAll K es tab = true →
    (tab.lookup i = none → es.find? (fun e => keyIs (.inl i) e.key) = none) ∧ ∀ ns, tab.lookup i = some ns → ∃ e, es.find? (fun e => keyIs (.inl i) e.key) = some e ∧ tupAt K e.val ns = true
  | [], [], _ => ⟨fun _ => rfl, fun ns h => by cases h⟩
  | e0 :: es, (j, ms) :: tab, h => by
    unfold tabAll at h
    rw [Bool.and_eq_true, Bool.and_eq_true, Bool.and_eq_true] at h
    obtain ⟨⟨⟨h1, h2⟩, h3⟩, h4⟩ := h
    have ih := tabAll_find i h4
    split at h1
    · rename_i j' t ek
      have e1 : j' = j := of_decide_eq_true h1
      subst e1
      by_cases e : i = j'
      · subst e
        have k1 : keyIs (.inl i) e0.key = true := by
          rw [ek]
          exact keyIs_int i t
        rw [List.lookup_cons_self, List.find?_cons_of_pos (p := fun e : DictEntry => keyIs (.inl i) e.key) (a := e0) k1]
        exact ⟨fun h => (by cases h), fun ns h => ⟨e0, rfl, (by cases h; exact h3)⟩⟩
      · have k1 : ¬ keyIs (.inl i) e0.key = true := by
          rw [ek]
          simp [keyIs, Value.isInt]
          exact fun z => e z.symm
        have k2 : (i == j') = false := by simpa using e
        rw [List.lookup_cons, k2, List.find?_cons_of_neg (p := fun e : DictEntry => keyIs (.inl i) e.key) (a := e0) k1]
        exact ih
    · cases h1
  | [], _ :: _, h => by cases h
  | _ :: _, [], h => by cases h
section
variable {X : Cx} {W : WX} {pos p apos : Pos} {x : Str} {k d : Expr} {ty tx : TE}
def tKGet (es : Array DictEntry) (ty tx : TE) : TE := fun σ H Q => ty σ H fun y H1 => tx σ H1 fun z H2 => ∃ i, y = .int i ∧ ((es.toList.find? fun e => keyIs (.inl i) e.key) = none → Q z H2) ∧ ∀ e, (es.toList.find? fun e => keyIs (.inl i) e.key) = some e → ∃ v, RelV v e.val ∧ Q v H2
theorem pe_kget {a : Addr} {es : Array DictEntry} {tab : List (Int × List Int)} (T : KTab X.K a es tab) (hg : Gl X x) (hm : X.mg x = some (.ref a)) (hk : PE X k ty) (hx : PE X d tx) (hdb : (x == ("__debug__" : Str)) = false := by decide) (m : M2 X (.Name x p) "get" apos k d pos := by exact ⟨rfl, rfl, rfl, rfl⟩) :
    PE X (.Call (.Attribute (.Name x p) "get" apos) [k, d] [] pos) (tKGet es ty tx) := by
  have ho : PE X (.Name x p) (L2.tC (.ref a)) := pe_glob (v := .ref a) hg hm rfl hdb
  obtain ⟨n, hl⟩ := T.at_
  refine ⟨fun pins s σ H Q I h => ?_⟩
  refine wpAny_Call_method m.base m.few m.line PySem.F.plainAttrs_dict PySem.F.slot_dict_get PySem.F.type_dict_get (thn (ho.run pins s σ H (fun v H1 => v = .ref a ∧ H1 = H) I ⟨rfl, rfl⟩) fun u s1 ⟨x', H1, I1, rx, ex, eh⟩ => ?_)
  subst ex eh
  obtain rfl : u = Value.ref a := rx
  have at1 : ∀ {s : Shared} {σ' : L2.St} {H' : Hp}, Inv X pins σ' H' s → s.heap.get? a = some ⟨.type "dict", none, .dict es n, #[]⟩ := fun I => I.kIn _ _ hl
  refine ⟨⟨_, at1 I1, rfl⟩, fun b q => ?_, ?_⟩
  · cases q
    exact ⟨_, at1 I1, rfl⟩
  rw [m.trees]
  refine Calls.callWith_builtin rfl (Calls.evalArgs_plain (Calls.spliced_cons (thn (hk.run pins s1 σ H1 _ I1 h) fun iv s2 ⟨y, H2, I2, ry, q2⟩ =>
    Calls.spliced_cons (thn (hx.run pins s2 σ H2 _ I2 q2) fun fv s3 ⟨z, H3, I3, rz, i, ey, q3, q4⟩ => Calls.spliced_nil ?_))))
  subst ey
  refine call_meetsIn PySem.F.slot_dict_get ⟨_, at1 I3, rfl⟩ PySem.F.entry_dict_get (PySem.F.args_dict_get_3 _ _ _) (meets_dict_get_default (mixKind X.prog X.w) (k := .inl i) a (kV_is (k := .inl i) ry) T.ns fv) ⟨fun k => findBy keyIs es k, ⟨_, es, n, at1 I3, ⟨rfl, rfl, rfl⟩, rfl, fun e m => tabAll_keys T.al e (by simpa using m), fun k => rfl⟩, ?_⟩
  have ef : findBy keyIs es (.inl i) = (es.toList.find? fun e => keyIs (.inl i) e.key).map (·.val) := by
    unfold findBy
    rw [← Array.find?_toList]
  show EP X pins σ Q ((findBy keyIs es (.inl i)).getD fv) _
  rw [ef]
  cases eq : es.toList.find? fun e => keyIs (.inl i) e.key with
  | none => exact ⟨z, H3, I3.tok _, rz, q3 eq⟩
  | some e =>
    obtain ⟨v, rv, q5⟩ := q4 e eq
    exact ⟨v, H3, I3.tok _, rv, q5⟩
/-- LEADS.get(k, d) -/
def tabD (tab : List (Int × List Int)) (i : Int) (x : D) : D := match tab.lookup i with
  | some ns => .tuple (ns.map PyData.int)
  | none => x
def eKGet (tab : List (Int × List Int)) (fk fx : EM D) : EM D := eBind fk fun k => eBind fx fun x => match k with
  | .int i => eRet (tabD tab i x)
  | _ => fun _ => .bad
/-- a, b, .. = LEADS.get(k, d) -/
theorem ds_kget {a : Addr} {es : Array DictEntry} {tab : List (Int × List Int)} {ts : List Expr} {kk : Nat} {tp : Pos} {is : List Nat} {t : List D → List Slot → Option (List Slot)} {n : Nat} {fk fx : EM D} (hc : X.calm = true) (T : KTab X.K a es tab) (hm : X.mg x = some (.ref a)) (hk : DE X W k fk) (hx : DE X W d fx) (h : DGs X W ts is t) (hg : Gl X x := by rfl)
    (hdb : (x == ("__debug__" : Str)) = false := by decide) (m : M2 X (.Name x p) "get" apos k d pos := by exact ⟨rfl, rfl, rfl, rfl⟩)
    (hn : (assignEach ts X.env).length = n := by rfl) (hst : (assignEach ts X.env).findIdx? (·.1) = none := by rfl)
    {pos2 : Pos} (hs : swapsWithSole [.Tuple ts kk tp] (.Call (.Attribute (.Name x p) "get" apos) [k, d] [] pos) pos2.line X.env = pure false := by rfl) (hw : swappedStores [.Tuple ts kk tp] (.Call (.Attribute (.Name x p) "get" apos) [k, d] [] pos) X.env = pure none := by rfl)
    (h1 : (assignEach [.Tuple ts kk tp] X.env).map (·.2) = [assign (.Tuple ts kk tp) X.env] := by rfl) :
    DS X W (.Assign [.Tuple ts kk tp] (.Call (.Attribute (.Name x p) "get" apos) [k, d] [] pos) pos2) (sAsg (eKGet tab fk fx) (gT t n)) := by
  refine PS.wk (ps_asg (pe_kget T hg hm hk hx hdb m) (pg_tup hc h hn hst) hs hw h1) fun Q σ H q => ?_
  obtain ⟨S, Z, F, h0, q⟩ := q
  have q' : Go (gx X W) σ ⟨Z, H, F⟩ (eKGet tab fk fx S) (fun dd S' c' => GoS (gx X W) c' Q (match gT t n dd S' with | some S'' => .nx S'' | none => .bad)) := Go.toS q fun dd S1 c1 s1 h1 q1 => q1
  refine ⟨S, Z, F, h0, (Go.bind q').mono fun kd S1 c1 s1 h1 q1 y ry => ?_⟩
  refine ⟨S1, c1.Z, c1.F, h1, (Go.bind q1).mono fun xd S2 c2 s2 h2 q2 z rz => ?_⟩
  cases kd with
  | int i =>
    cases ry
    have q2 : ∀ c', Stp c2 c' → Holds X.K S2 σ c' → GoS (gx X W) c' Q (match gT t n (tabD tab i xd) S2 with | some S'' => .nx S'' | none => .bad) := q2
    have fin : ∀ (v : V) (dd : D) (xs : List V) (ds : List D) (T : Addr), v = .ref T → dd = .tuple ds → SqT X.K c2.H T xs → RpA X.K c2.Z xs ds → (∀ c', Stp c2 c' → Holds X.K S2 σ c' → GoS (gx X W) c' Q (match gT t n dd S2 with | some S'' => .nx S'' | none => .bad)) →
        ∃ a xs, v = V.ref a ∧ SqT X.K c2.H a xs ∧ xs.length = n ∧ ∃ S Z F ds S', Holds X.K S σ ⟨Z, c2.H, F⟩ ∧ RpA X.K Z xs ds ∧ t ds S = some S' ∧ ∀ σ' c', Stp ⟨Z, c2.H, F⟩ c' → Holds X.K S' σ' c' → Only is σ σ' → Q.nx σ' c'.H := by
      rintro v dd xs ds T rfl rfl sq r q3
      have q4 := q3 c2 (Stp.refl _) h2
      have eg : gT t n (.tuple ds) S2 = (if ds.length = n then t ds S2 else none) := rfl
      rw [eg] at q4
      by_cases hl : ds.length = n
      · rw [if_pos hl] at q4
        cases et : t ds S2 with
        | none => rw [et] at q4; exact q4.elim
        | some S'' =>
          rw [et] at q4
          exact ⟨T, xs, rfl, sq, by rw [r.length]; exact hl, S2, c2.Z, c2.F, ds, S'', h2, r, et, fun σ' c' st hh _ => q4 σ' c' st hh⟩
      · rw [if_neg hl] at q4
        exact q4.elim
    refine ⟨i, rfl, fun en => ?_, fun e0 en => ?_⟩
    · have el : tab.lookup i = none := by
        cases q : tab.lookup i with
        | none => rfl
        | some ns =>
          obtain ⟨e, e1, _⟩ := (tabAll_find i T.al).2 ns q
          rw [en] at e1
          cases e1
      have ed : tabD tab i xd = xd := by unfold tabD; rw [el]
      rw [ed] at q2
      have q3 := q2 c2 (Stp.refl _) h2
      have isT : ∃ ds, xd = .tuple ds := by
        cases xd with
        | tuple ds => exact ⟨ds, rfl⟩
        | _ => exact q3.elim
      obtain ⟨ds, rfl⟩ := isT
      obtain ⟨T2, xs, rfl, z1, r1⟩ := rz.tupS
      exact fin _ _ xs ds T2 rfl rfl (SqT.of (h2.zh _ _ z1)) r1 fun c' st hh => q2 c' st hh
    · cases q : tab.lookup i with
      | none =>
        rw [(tabAll_find i T.al).1 q] at en
        cases en
      | some ns =>
        obtain ⟨e, e1, e2⟩ := (tabAll_find i T.al).2 ns q
        rw [en] at e1
        cases e1
        have ed : tabD tab i xd = .tuple (ns.map PyData.int) := by unfold tabD; rw [q]
        rw [ed] at q2
        obtain ⟨T2, e3, sq⟩ := tupAt_ok e2
        exact ⟨.ref T2, e3, fin _ _ _ _ T2 rfl rfl (sq _) (RpA.ofI ns) fun c' st hh => q2 c' st hh⟩
  | _ => exact q2.elim
end
/-! ### the head, widened by facts of one's own -/
abbrev AlX : Type := He.AlD × Bool
def obsX (fa : List He.Fa) (fn : List He.DefD) (bs : List (PySem.W.Frag → Bool)) (K : PySem.W.Frag) : AlX := (He.obsD fa fn K, bs.all fun b => b K)
def obsXG (n : Nat) (fa : List He.Fa) (fn : List He.DefD) (bs : List (PySem.W.Frag → Bool)) (g : Addr → Option Obj) : AlX := obsX fa fn bs (He.frG g (He.asD g n))
def SaysX (fa : List He.Fa) (fn : List He.DefD) (bs : List (PySem.W.Frag → Bool)) (K : PySem.W.Frag) : Prop := obsX fa fn bs K = (He.valD fn, true)
def hookX (n : Nat) (fa : List He.Fa) (fn : List He.DefD) (bs : List (PySem.W.Frag → Bool)) : PySem.W.Hook where
  α := AlX
  obs := fun s => obsXG n fa fn bs s.heap.get?
  val := fun _ => (He.valD fn, true)
  says := fun _ h => ∃ K : PySem.W.Frag, K.In h ∧ SaysX fa fn bs K
  of := fun _ _ e => ⟨_, He.frG_in, e⟩
  keeps := fun _ _ _ ⟨K, hK, c⟩ k => ⟨K, PySem.W.Frag.In.keeps hK k, c⟩
theorem obsXG_eq {n : Nat} {fa : List He.Fa} {fn : List He.DefD} {bs : List (PySem.W.Frag → Bool)} {g : Addr → Option Obj} {s : Shared} (h : ∀ a, g a = s.heap.get? a) : obsXG n fa fn bs g = (hookX n fa fn bs).obs s := by
  have e : g = s.heap.get? := funext h
  rw [e] <;> rfl
theorem SaysX.d {fa : List He.Fa} {fn : List He.DefD} {bs : List (PySem.W.Frag → Bool)} {K : PySem.W.Frag} (c : SaysX fa fn bs K) : He.SaysD fa fn K := congrArg (fun z : AlX => z.1) c
theorem SaysX.b {fa : List He.Fa} {fn : List He.DefD} {bs : List (PySem.W.Frag → Bool)} {K : PySem.W.Frag} (c : SaysX fa fn bs K) (i : Nat) {b : PySem.W.Frag → Bool} (h : bs[i]? = some b := by rfl) : b K = true :=
  List.all_eq_true.mp (congrArg (fun z : AlX => z.2) c : bs.all (fun b => b K) = true) b (List.mem_of_getElem? h)
/-! ### index among numbers -/
section
variable {X : Cx} {W : WX} {pos p apos : Pos} {x : Str} {o k : Expr} {fo fk : EM D}
def idxI (ds : List D) (d : D) : Option D := match d with
  | .int n => (allI ds).bind fun ns => (ns.findIdx? fun m => decide (m = n)).map fun j => .int (j : Nat)
  | _ => none
def idxD (d k : D) : Option D := match d with
  | .list ds => idxI ds k
  | _ => none
theorem idx_rd {c : Cfg} {a : Addr} {ys : List V} {ds : List D} {y : V} {kd r : D} {Q : VK} (hs : SqL X.K c.H a ys) (rs : RpA X.K c.Z ys ds) (ry : Rp X.K c.Z y kd) (e : idxI ds kd = some r) (q : ∀ v, Rp X.K c.Z v r → Q v c.H) : rIndex X.K (.ref a) [y] c.H Q := by
  unfold idxI at e
  split at e
  · rename_i n
    cases ry
    obtain ⟨ns, e1, e2⟩ := Option.bind_eq_some_iff.mp e
    obtain ⟨j, e3, e4⟩ := Option.map_eq_some_iff.mp e2
    subst e4
    have ed := allI_ok e1
    subst ed
    have ey := rs.intsV
    subst ey
    obtain ⟨hj, h1, h2⟩ := List.findIdx?_eq_some_iff_getElem.mp e3
    have en : ns[j] = n := of_decide_eq_true h1
    refine ⟨a, ns.map V.int, .int n, j, .int n, rfl, rfl, hs, rfl, ?_, ?_, ?_, fun m z' hm hz => ?_, q _ (.int _)⟩
    · simp [flatV]
    · rw [List.getElem?_map, List.getElem?_eq_getElem hj, en]
      rfl
    · simp [eqV]
    · rw [List.getElem?_map, List.getElem?_eq_getElem (by omega)] at hz
      cases hz
      have := h2 m hm
      simpa [eqV] using this
  · cases e
def eIdx (fo fk : EM D) : EM D := eBind (eBind fo fun d => match d with | .list ds => eRet (.list ds) | _ => fun _ => .bad) fun d => eBind fk fun k => eOpt (idxD d k)
theorem de_index (ho : DE X W o fo) (hk : DE X W k fk)
    (hbase : attributeBase o "index" X.env (eval o X.env) = eval o X.env := by rfl)
    (hfew : ((backTo pos (starEach [k] X.env)).all (fun x => !x.1) && (backToKw pos (keywordEach [] X.env)).all (fun x => x.1.isSome)
      && decide ([k].length + ([] : List Keyword).length + (if ([] : List Keyword).isEmpty then 0 else 1) < 30)) = true := by rfl)
    (hline : (apos.endLine == pos.line) = true := by rfl) (hs : starEach [k] X.env = (false, eval k X.env) :: starEach [] X.env := by rfl) (hplain : (backTo pos (starEach [] X.env)).any (·.1) = false := by rfl) :
    DE X W (.Call (.Attribute o "index" apos) [k] [] pos) (eIdx fo fk) := by
  refine PE.wk (pe_bm PySem.F.plainAttrs_list PySem.F.slot_list_index PySem.F.type_list_index mt_index ho (pa_cons hk pa_nil hs) (hbase := hbase) (hfew := hfew) (hline := hline) (hs := hs) (hplain := hplain)) fun σ H Q q => ?_
  obtain ⟨S, Z, F, h, q⟩ := q
  have q' := Go.bind q
  refine ⟨S, Z, F, h, (Go.bind q').mono fun d S1 c1 s1 h1 q1 v rv => ?_⟩
  cases d with
  | list ds =>
    have q2 := q1 c1 (Stp.refl _) h1
    obtain ⟨a, ys, rfl, z1, r1⟩ := rv.lstI
    refine ⟨.inl ⟨rfl, ys, SqL.of (h1.zh _ _ z1)⟩, S1, c1.Z, c1.F, h1, (Go.bind q2).mono fun kd S2 c2 s2 h2 q3 y ry => ?_⟩
    obtain ⟨r, e, k⟩ := Go.opt q3
    have z2 := h2.zh _ _ (s2.z _ _ z1)
    exact idx_rd (SqL.of z2) (r1.mono s2.z) ry e fun v rv => k c2 (Stp.refl _) h2 v rv
  | _ => exact q1.elim
end
end FW

/-! FwR: bit_length, tuples of the module, more. -/
namespace FW
open PySem PySem.Spec L2
open PyProof.Rows hiding St
section
variable {X : Cx} {W : WX} {pos p apos : Pos} {x : Str} {o k e : Expr} {fo fk fe : EM D}
def bitsD : D → Option D
  | .int i => some (.int (Builtin.Int.intBits i : Nat))
  | _ => none
theorem de_bits (ho : DE X W o fo) (hbase : attributeBase o "bit_length" X.env (eval o X.env) = eval o X.env := by rfl) (hline : (apos.endLine == pos.line) = true := by rfl) : DE X W (.Call (.Attribute o "bit_length" apos) [] [] pos) (eUn bitsD fo) := by
  refine PE.wk (pe_bits ho hbase hline) fun σ H Q q => ?_
  obtain ⟨S, Z, F, h, q⟩ := q
  refine ⟨S, Z, F, h, (Go.bind q).mono fun d S1 c1 s1 h1 q1 v rv => ?_⟩
  obtain ⟨r, e1, k⟩ := Go.opt q1
  unfold bitsD at e1
  split at e1
  · cases e1
    cases rv
    exact ⟨_, rfl, k c1 (Stp.refl _) h1 _ (.int _)⟩
  · cases e1
/-- a tuple of the module to the left of == and != -/
theorem dt_eqKL (hu : X.A.units + 64 < cLine) {b : D} {px : Pos} (h : ∃ a, X.mg x = some (.ref a) ∧ ∀ Z, Dp X.K Z (.ref a) b) (he : DE X W e fe) (hg : Gl X x := by rfl) (hd : (x == ("__debug__" : Str)) = false := by decide) : DT X W (.Compare (.Name x px) [.Eq] [e] pos) (bOf (eBin eqD (eC b) fe)) := by
  obtain ⟨p, h1, h2⟩ := h
  refine PT.wk (pt_cmpR op_eqP (pe_glob (v := .ref p) hg h1 rfl hd) he (nomark _)) fun σ H Q q => ?_
  obtain ⟨S, Z, F, hh, q⟩ := bof_rd σ H Q q
  refine ⟨S, Z, F, hh, (Go.bind (show Go (gx X W) σ ⟨Z, H, F⟩ (eBind fe (fun c => eOpt (eqD b c)) S) _ from q)).mono fun a S1 c1 s1 h1' q1 v rv => ?_⟩
  obtain ⟨d, e1, k⟩ := Go.opt q1
  unfold eqD at e1
  split at e1
  · rename_i hs
    obtain ⟨n1, n2, hs⟩ := cmpOk_get hs
    cases e1
    exact ⟨b, a, h2 _, (Lo.z rv).dp h1'.zh n2, noDict_plain b n1, noDict_plain a n2, shal2_ok hs hu, k c1 (Stp.refl _) h1' _ (.bl _)⟩
  · cases e1
theorem dt_neKL (hu : X.A.units + 64 < cLine) {b : D} {px : Pos} (h : ∃ a, X.mg x = some (.ref a) ∧ ∀ Z, Dp X.K Z (.ref a) b) (he : DE X W e fe) (hg : Gl X x := by rfl) (hd : (x == ("__debug__" : Str)) = false := by decide) : DT X W (.Compare (.Name x px) [.NotEq] [e] pos) (bOf (eBin neD (eC b) fe)) := by
  obtain ⟨p, h1, h2⟩ := h
  refine PT.wk (pt_cmpR op_neP (pe_glob (v := .ref p) hg h1 rfl hd) he (nomark _)) fun σ H Q q => ?_
  obtain ⟨S, Z, F, hh, q⟩ := bof_rd σ H Q q
  refine ⟨S, Z, F, hh, (Go.bind (show Go (gx X W) σ ⟨Z, H, F⟩ (eBind fe (fun c => eOpt (neD b c)) S) _ from q)).mono fun a S1 c1 s1 h1' q1 v rv => ?_⟩
  obtain ⟨d, e1, k⟩ := Go.opt q1
  unfold neD at e1
  split at e1
  · rename_i hs
    obtain ⟨n1, n2, hs⟩ := cmpOk_get hs
    cases e1
    exact ⟨b, a, h2 _, (Lo.z rv).dp h1'.zh n2, noDict_plain b n1, noDict_plain a n2, shal2_ok hs hu, k c1 (Stp.refl _) h1' _ (.bl _)⟩
  · cases e1
/-- a tuple of numbers of the module -/
def KTup (X : Cx) (x : Str) (ns : List Int) : Prop := ∃ a, X.mg x = some (.ref a) ∧ ∀ Z, SqT X.K Z a (ns.map V.int)
/-- list(NAME) -/
theorem df_listK {ns : List Int} {px : Pos} (h : ∃ a, X.mg x = some (.ref a) ∧ ∀ Z, Dp X.K Z (.ref a) (.tuple (ns.map PyData.int))) (hm : X.mg "list" = none) (hg : Gl X x := by rfl) (hg2 : Gl X "list" := by rfl) (hd : (x == ("__debug__" : Str)) = false := by decide)
    (hs : starEach [.Name x px] X.env = (false, eval (.Name x px) X.env) :: starEach [] X.env := by rfl) (hpl : (backTo pos (starEach [] X.env)).any (·.1) = false := by rfl) :
    DF X W (.Call (.Name "list" p) [.Name x px] [] pos) (eRet (ns.map PyData.int)) := by
  obtain ⟨a, h1, h2⟩ := h
  refine PE.wk (pe_callTy call_list_of hg2 hm bt_list (pa_cons (pe_glob (v := .ref a) hg h1 rfl hd) pa_nil hs) (he := hs) (hpl := hpl)) fun σ H Q q => ?_
  obtain ⟨S, Z, F, hh, q⟩ := q
  have sq : SqT X.K H a (ns.map V.int) := by
    have d := h2 H
    cases d with
    | tup t1 t2 =>
      have e : ∀ {xs : List V} {ms : List Int}, DpAll X.K H xs (ms.map PyData.int) → xs = ms.map V.int := by
        intro xs ms t
        induction ms generalizing xs with
        | nil => cases t; rfl
        | cons m ms ih =>
          cases t with
          | cons u1 u2 =>
            cases u1
            rw [ih u2]
            rfl
      rw [e t2] at t1
      exact t1
  exact ⟨a, _, rfl, .inr sq, fun l hl => q _ (Stp.refl _) hh l _ hl (RpA.ofI ns)⟩
end
/-! ### sorted, numbers -/
def insI (n : Int) : List Int → List Int
  | [] => [n]
  | m :: ms => if n ≤ m then n :: m :: ms else m :: insI n ms
def sortI : List Int → List Int
  | [] => []
  | n :: ns => insI n (sortI ns)
theorem insI_perm (n : Int) : ∀ ms : List Int, (insI n ms).Perm (n :: ms)
  | [] => .refl _
  | m :: ms => by
    unfold insI
    split
    · exact .refl _
    · exact ((insI_perm n ms).cons m).trans (.swap _ _ _)
theorem sortI_perm : ∀ ns : List Int, (sortI ns).Perm ns
  | [] => .refl _
  | n :: ns => (insI_perm n _).trans ((sortI_perm ns).cons n)
theorem insI_sorted (n : Int) : ∀ {ms : List Int}, ms.Pairwise (· ≤ ·) → (insI n ms).Pairwise (· ≤ ·)
  | [], _ => List.pairwise_singleton _ _
  | m :: ms, h => by
    unfold insI
    split
    · rename_i hn
      refine List.pairwise_cons.mpr ⟨fun x hx => ?_, h⟩
      rcases List.mem_cons.mp hx with z | z
      · rw [z]; exact hn
      · exact Int.le_trans hn ((List.pairwise_cons.mp h).1 x z)
    · rename_i hn
      refine List.pairwise_cons.mpr ⟨fun x hx => ?_, insI_sorted n (List.pairwise_cons.mp h).2⟩
      rcases List.mem_cons.mp ((insI_perm n ms).mem_iff.mp hx) with z | z
      · rw [z]; omega
      · exact (List.pairwise_cons.mp h).1 x z
theorem sortI_sorted : ∀ ns : List Int, (sortI ns).Pairwise (· ≤ ·)
  | [] => List.Pairwise.nil
  | n :: ns => insI_sorted n (sortI_sorted ns)
theorem sorted_uniq : ∀ {as bs : List Int}, as.Perm bs → as.Pairwise (· ≤ ·) → bs.Pairwise (· ≤ ·) → as = bs
  | [], bs, p, _, _ => (List.nil_perm.mp p).symm
  | a :: as, [], p, _, _ => absurd p.length_eq (by simp)
  | a :: as, b :: bs, p, h1, h2 => by
    have e : a = b := by
      have m1 : a ∈ b :: bs := p.mem_iff.mp List.mem_cons_self
      have m2 : b ∈ a :: as := p.mem_iff.mpr List.mem_cons_self
      have l1 : b ≤ a := by
        rcases List.mem_cons.mp m1 with z | z
        · rw [z]; exact Int.le_refl _
        · exact (List.pairwise_cons.mp h2).1 a z
      have l2 : a ≤ b := by
        rcases List.mem_cons.mp m2 with z | z
        · rw [z]; exact Int.le_refl _
        · exact (List.pairwise_cons.mp h1).1 b z
      omega
    subst e
    rw [sorted_uniq (p.cons_inv) (List.pairwise_cons.mp h1).2 (List.pairwise_cons.mp h2).2]
section
variable {X : Cx} {W : WX}
def sortedD : List D → Option (List D)
  | [.list ds] => (allI ds).map fun ns => (sortI ns).map PyData.int
  | _ => none
theorem cf_sorted : CallF X W (.builtin "sorted") sortedD := by
  refine ⟨_, cr_sortedI, fun vs ds es S σ c Q e hh rs q => ?_⟩
  unfold sortedD at e
  split at e
  · rename_i es'
    obtain ⟨ns, e1, e2⟩ := Option.map_eq_some_iff.mp e
    subst e2
    have ed := allI_ok e1
    subst ed
    obtain ⟨v, rfl, r⟩ := rs.one
    obtain ⟨a, xs, rfl, a1, r1⟩ := r.lstI hh.zh
    have ex := r1.intsV
    subst ex
    refine ⟨a, ns, rfl, SqL.of a1, fun ms p p2 p3 hp => ?_⟩
    have em : ms = sortI ns := sorted_uniq (p2.trans (sortI_perm ns).symm) p3 (sortI_sorted ns)
    subst em
    exact q c p _ (Stp.refl _) hh hp (RpA.ofI _)
  · cases e
end
/-- the j-th statement of a class's body -/
def clsS (st : Stmt) (j : Nat) : Stmt := match st with
  | .ClassDef _ _ _ body _ _ _ _ _ _ _ => body.getD j (.Pass ⟨0, 0, 0, 0⟩)
  | _ => .Pass ⟨0, 0, 0, 0⟩
end FW

/-! FwP: the first statements of every law, the end of every law. -/
namespace FW
open PySem PySem.Spec L2
open PyProof.Rows hiding St
def absI (i : Int) : Int := if i < 0 then -i else i
def stRest : SM := sSeq (sIf (bOf (eBin eqD (eB lenD (aCons (eV 1) aNil)) (eC (.int 0)))) (sSeq (sSet 1 (eLst (aCons (eC (.int 0)) aNil))) sNx) sNx) (sSeq (sRet (eLst (aCons (eC (.int 0)) (aCons (eV 1) aNil)))) sNx)
theorem stRest_eq (ns : List Int) (h : ns.length ≤ 63) : ∃ ms S, DrawOk ms ∧ stRest [.un, .dat (.list (ns.map PyData.int)), .un] = .rt (.list [.int 0, .list (ms.map PyData.int)]) S := by
  have h16 : (63 : Nat) ≤ sizeLine := by decide
  cases ns with
  | nil => exact ⟨[0], _, by unfold DrawOk; decide, rfl⟩
  | cons n ns => exact ⟨n :: ns, _, by unfold DrawOk; simp, by
      have e : PyData.eqv (.int ((((n :: ns).map PyData.int).length : Nat) : Int)) (.int 0) = false := by
        simp [PyData.eqv]
        omega
      have e2 : eqD (.int ((((n :: ns).map PyData.int).length : Nat) : Int)) (.int 0) = some (.bool false) := by
        unfold eqD
        rw [e]
        rfl
      have e3 : (eB lenD (aCons (eV 1) aNil)) [.un, .dat (.list ((n :: ns).map PyData.int)), .un] = .ok (.int ((((n :: ns).map PyData.int).length : Nat) : Int)) [.un, .dat (.list ((n :: ns).map PyData.int)), .un] := rfl
      have e4 : (bOf (eBin eqD (eB lenD (aCons (eV 1) aNil)) (eC (.int 0)))) [.un, .dat (.list ((n :: ns).map PyData.int)), .un] = .ok false [.un, .dat (.list ((n :: ns).map PyData.int)), .un] := by
        unfold bOf eBin eBind
        simp only [e3, eC, eRet, e2, eOpt, asB]
      unfold stRest sSeq sIf sOf
      simp only [e4]
      rfl⟩
theorem cut63 (vs : List V) (hl : vs.length ≤ 63) : cutV vs none (some 63) = vs := by
  unfold cutV
  have e : HT.sIx vs.length vs.length (some 63) = vs.length := by
    unfold HT.sIx
    simp
    omega
  rw [e]
  have e0 : HT.sIx vs.length 0 none = 0 := rfl
  rw [e0, List.drop_zero, Nat.sub_zero, List.take_length]
/-- the last two statements of _law_state, from what the first leaves -/
theorem state_rest {X : Cx} {Q : VK} {H H' : Hp} {a Dl : Addr} {ns : List Int} {nx bk ct : St → Hp → Prop} (hlen : ns.length ≤ 63) (sm : Same H H') (hD0 : H Dl = none) (h2 : H' Dl = some (.lst (ns.map fun n => V.int (absI n))))
    (q : ∀ H' a b, Same H H' → H a = none → H b = none → a ≠ b → ∀ ms : List Int, DrawOk ms → H' a = some (.lst [.int 0, .ref b]) → H' b = some (.lst (ms.map V.int)) → Q (.ref a) H') :
    tS (gx X W0) stRest ⟨nx, Q, bk, ct⟩ [some (.ref a), some (.ref Dl), none] H' := by
  obtain ⟨ms, S', hms, er⟩ := stRest_eq (ns.map absI) (by simpa using hlen)
  have hz : Holds X.K [.un, .dat (.list ((ns.map absI).map PyData.int)), .un] [some (.ref a), some (.ref Dl), none] ⟨upd (fun _ => none) Dl (.lst (ns.map fun n => V.int (absI n))), H', []⟩ := by
    refine ⟨?_, List.nodup_nil, fun a m => by simp at m, fun b o e => ?_⟩
    · have q : HoldsL X.K ⟨upd (fun _ => none) Dl (.lst (ns.map fun n => V.int (absI n))), H', []⟩ [.un, .dat (.list ((ns.map absI).map PyData.int)), .un] [some (.ref a), some (.ref Dl), none] ([] ++ ([] ++ ([] ++ []))) := by
        have r := RpA.ofI (K := X.K) (Z := upd (fun _ => none) Dl (.lst (ns.map fun n => V.int (absI n)))) (ns.map absI)
        rw [List.map_map] at r
        have r1 : Rp X.K (upd (fun _ => none) Dl (.lst (ns.map fun n => V.int (absI n)))) (.ref Dl) (.list ((ns.map absI).map PyData.int)) := .lst upd_same r
        exact .cons rfl (.cons ⟨rfl, _, rfl, r1⟩ (.cons rfl .nil))
      exact q
    · have e' : upd (fun _ => none) Dl (.lst (ns.map fun n => V.int (absI n))) b = some o := e
      by_cases hb : b = Dl
      · subst hb
        rw [upd_same] at e'
        rw [← e']
        exact h2
      · rw [upd_ne hb] at e'
        cases e'
  refine ⟨_, _, _, hz, ?_⟩
  rw [er]
  intro σ' c' v st hh rv
  obtain ⟨va, xs, rfl, z1, r1⟩ := rv.lstI
  cases r1 with
  | cons r1 r2 =>
  cases r1
  obtain ⟨vb, rfl, r3⟩ := r2.one
  obtain ⟨b2, ys, rfl, z2, r4⟩ := r3.lstI
  have ey := r4.intsV
  subst ey
  have was : ∀ {p2 : Addr} {o : HO}, c'.Z p2 = some o → (∀ xs, o ≠ .tup xs) → p2 = Dl ∨ H' p2 = none := fun {p2 o} e hn => by
    rcases st.n p2 o e with z | z | z | ⟨xs, z⟩
    · by_cases hb : p2 = Dl
      · exact .inl hb
      · have z' : upd (fun _ => none) Dl (.lst (ns.map fun n => V.int (absI n))) p2 = some o := z
        rw [upd_ne hb] at z'
        cases z'
    · exact .inr z
    · simp at z
    · have z3 := st.k p2 _ z (by simp)
      have z4 := hh.zh _ _ e
      rw [z3] at z4
      cases z4
      exact absurd rfl (hn _)
  have hnone : ∀ {p2 : Addr} {o : HO}, c'.Z p2 = some o → (∀ xs, o ≠ .tup xs) → H p2 = none := fun {p2 o} e hn => by
    rcases was e hn with z | z
    · rw [z]; exact hD0
    · cases q : H p2 with
      | none => rfl
      | some o =>
        rw [sm _ _ q] at z
        cases z
  have smc : Same H c'.H := fun b o e => st.k b o (sm b o e) (by simp)
  refine q c'.H va b2 smc (hnone z1 fun _ e => by cases e) (hnone z2 fun _ e => by cases e) (fun e => ?_) ms hms (hh.zh _ _ z1) (hh.zh _ _ z2)
  subst e
  rw [z1] at z2
  cases ms with
  | nil => cases z2
  | cons m ms =>
    cases ms with
    | nil => cases z2
    | cons m2 ms => cases z2
/-- _law_state, all three statements -/
theorem state_all {X : Cx} {Q : VK} {H : Hp} {a : Addr} {ns : List Int} {nx bk ct : St → Hp → Prop} (hS : SqL X.K H a (ns.map V.int)) (hlen : ns.length ≤ 63)
    (q : ∀ H' a b, Same H H' → H a = none → H b = none → a ≠ b → ∀ ms : List Int, DrawOk ms → H' a = some (.lst [.int 0, .ref b]) → H' b = some (.lst (ms.map V.int)) → Q (.ref a) H') :
    tSeq (tAsg (tLc (iList X.K (L2.tSl (rSlL X.K) (tVar 0) tNoPart (tPart (tC (.int 63))))) (gName 2) tYes (tCB (fun xs H Q => ∃ i, xs = [.int i] ∧ Q (.int (if i < 0 then -i else i)) H) (tCons (tVar 2) tNil)) [2]) (gName 1)) (tS (gx X W0) stRest) ⟨nx, Q, bk, ct⟩ [some (.ref a), none, none] H := by
  have h16 : (63 : Nat) < sizeLine := by decide
  refine ⟨.ref a, rfl, 63, rfl, a, ns.map V.int, rfl, hS, fun p hp => ?_⟩
  rw [cut63 _ (by simpa using hlen)]
  refine ⟨p, rfl, ⟨_, .inl (.inl upd_same)⟩, fun Dl hD => ?_⟩
  have nDp : Dl ≠ p := fun e => by
    subst e
    rw [upd_same] at hD
    cases hD
  have hD0 : H Dl = none := by
    rw [upd_ne nDp] at hD
    exact hD
  have pD : p ≠ Dl := fun e => nDp e.symm
  refine lc_list (xs := ns.map V.int) (a := p) (fun i H' => Same H H' ∧ H' p = some (.lst (ns.map V.int)) ∧ H' Dl = some (.lst ((ns.take i).map fun n => V.int (absI n)))) ⟨?_, ?_, ?_⟩ (fun i H' _ hP => .inl (.inl hP.2.1)) (fun i x H' hx hP => ?_) (fun H' hP => ?_)
  · exact fun b o e => by
      have nb : b ≠ Dl := ne_of_none e hD0
      have nb2 : b ≠ p := ne_of_none e hp
      rw [upd_ne nb, upd_ne nb2]
      exact e
  · rw [upd_ne pD]
    exact upd_same
  · exact upd_same
  · obtain ⟨sm, h1, h2⟩ := hP
    rw [List.getElem?_map] at hx
    obtain ⟨n, hn, rfl⟩ := Option.map_eq_some_iff.mp hx
    have hi : i < ns.length := (List.getElem?_eq_some_iff.mp hn).1
    refine ⟨wipe_set (by simp), ?_⟩
    refine ⟨.int n, rfl, n, rfl, _, h2, by simp; omega, fun b o e => ?_, ?_, ?_⟩
    · rw [upd_ne (ne_of_none e hD0)]
      exact sm b o e
    · rw [upd_ne pD]
      exact h1
    · rw [upd_same, List.take_add_one, hn, List.map_append]
      rfl
  · obtain ⟨sm, h1, h2⟩ := hP
    rw [List.length_map, List.take_length] at h2
    exact state_rest (X := X) hlen sm hD0 h2 q
theorem unL {K : PySem.W.Frag} {c : Cfg} : ∀ n : Nat, HoldsL K c (List.replicate n Slot.un) (List.replicate n none) []
  | 0 => .nil
  | n + 1 => by
    have q : HoldsL K c (Slot.un :: List.replicate n Slot.un) (none :: List.replicate n none) ([] ++ []) := .cons rfl (unL n)
    rw [List.replicate_succ, List.replicate_succ]
    exact q
/-- a law behind its first statement -/
theorem law_rest {X : Cx} {Q : VK} {H : Hp} {s p b : Addr} {ms : List Int} {f : SM} {n : Nat} {nx bk ct : St → Hp → Prop} {S' : List Slot} (ne : p ≠ b) (ep : H p = some (.lst [.int 0, .ref b])) (eb : H b = some (.lst (ms.map V.int)))
    (er : f (.un :: .drw p 0 ms :: List.replicate n .un) = .rt (.bool true) S') (q : ∀ H', Q (.bl true) H') : tS (gx X W0) f ⟨nx, Q, bk, ct⟩ (some (.ref s) :: some (.ref p) :: List.replicate n none) H := by
  refine ⟨.un :: .drw p 0 ms :: List.replicate n .un, fun _ => none, [p, b], ⟨?_, by simp [ne], fun c m => rfl, fun c o e => by cases e⟩, ?_⟩
  · have h : HoldsL X.K ⟨fun _ => none, H, [p, b]⟩ (.un :: .drw p 0 ms :: List.replicate n .un) (some (.ref s) :: some (.ref p) :: List.replicate n none) ([] ++ ([p, b] ++ [])) := .cons rfl (.cons ⟨b, rfl, rfl, ep, eb⟩ (unL n))
    exact h
  · rw [er]
    intro σ' c' v st hh rv
    cases rv
    exact q c'.H
theorem fun_of {K : PySem.W.Frag} {x q : Str} {st : Stmt} {f : Addr} {fd : FuncData} (F : FunD K x q (defArgs st) (defBody st) (defScope st) [] [] f fd) : Fun K x q st f fd := by
  obtain ⟨oc, od, dV, kV, doc, pm, an, cdv, ct, osl, rfl, lk, hcd, hD, hK⟩ := F.ex
  rcases hD with ⟨_, rfl⟩ | ⟨e, _⟩
  · exact ⟨⟨oc, od, kV, doc, pm, an, cdv, ct, osl, rfl, lk, hcd⟩, F.kp⟩
  · exact absurd rfl e
end FW

/-! FwS: plain reasoning about what a def means: the way from what is wanted behind to what must hold ahead. -/
namespace FW
open PySem PySem.Spec L2
open PyProof.Rows hiding St
/-- the expression goes, and what it leaves is so -/
def Ep {α : Type} (m : EM α) (S : List Slot) (P : α → List Slot → Prop) : Prop := ∃ a S', m S = .ok a S' ∧ P a S'
/-- an end that is no exception -/
def okO : Out → Bool
  | .ex _ _ => false
  | .bad => false
  | _ => true
/-- the statement's end is so -/
def Wp (f : SM) (S : List Slot) (Q : Out → Prop) : Prop := okO (f S) = true ∧ Q (f S)
section
variable {α β : Type} {S : List Slot} {P : α → List Slot → Prop} {PD : D → List Slot → Prop} {PL : List D → List Slot → Prop} {PB : Bool → List Slot → Prop} {Q : Out → Prop}
theorem Ep.mono {m : EM α} {P' : α → List Slot → Prop} (h : Ep m S P) (i : ∀ a S', P a S' → P' a S') : Ep m S P' := by
  obtain ⟨a, S', e, p⟩ := h
  exact ⟨a, S', e, i a S' p⟩
theorem Ep_ret (a : α) : Ep (eRet a) S P = P a S := propext ⟨fun ⟨_, _, e, p⟩ => (by cases e; exact p), fun p => ⟨a, S, rfl, p⟩⟩
theorem Ep_opt (o : Option α) : Ep (eOpt o) S P = ∃ a, o = some a ∧ P a S := by
  cases o with
  | none => exact propext ⟨fun ⟨_, _, e, _⟩ => (nomatch (show (Er.bad : Er α) = _ from e)), fun ⟨_, e, _⟩ => (nomatch e)⟩
  | some a => exact propext ⟨fun ⟨_, _, e, p⟩ => (by cases e; exact ⟨a, rfl, p⟩), fun ⟨_, e, p⟩ => (by cases e; exact ⟨a, S, rfl, p⟩)⟩
theorem Ep_bind {m : EM α} {g : α → EM β} {PB : β → List Slot → Prop} : Ep (eBind m g) S PB = Ep m S fun a S1 => Ep (g a) S1 PB := by
  unfold Ep eBind
  cases e : m S with
  | ok a S' => exact propext ⟨fun h => ⟨a, S', rfl, h⟩, fun ⟨_, _, e2, h⟩ => (by cases e2; exact h)⟩
  | ex x S' => exact propext ⟨fun ⟨_, _, e2, _⟩ => (nomatch e2), fun ⟨_, _, e2, _⟩ => (nomatch e2)⟩
  | bad => exact propext ⟨fun ⟨_, _, e2, _⟩ => (nomatch e2), fun ⟨_, _, e2, _⟩ => (nomatch e2)⟩
theorem Ep_bad : Ep (fun _ => .bad) S P = False := propext ⟨fun ⟨_, _, e, _⟩ => (nomatch e), False.elim⟩
theorem Ep_ite {c : Prop} [Decidable c] {a b : EM α} : Ep (if c then a else b) S P = if c then Ep a S P else Ep b S P := by split <;> rfl
theorem Ep_C (d : D) : Ep (eC d) S PD = PD d S := Ep_ret d
theorem Ep_nil : Ep aNil S PL = PL [] S := Ep_ret []
theorem Ep_no {PO : Option Int → List Slot → Prop} : Ep oNo S PO = PO none S := Ep_ret none
theorem Ep_some {f : EM D} {PO : Option Int → List Slot → Prop} : Ep (oSome f) S PO = Ep f S fun d S1 => ∃ i, asI d = some i ∧ PO (some i) S1 := by
  unfold oSome
  simp only [Ep_bind, Ep_opt, Ep_ret]
theorem Ep_yes : Ep bYes S PB = PB true S := Ep_ret true
theorem Ep_V {i : Nat} {d : D} (h : S[i]? = some (.dat d)) : Ep (eV i) S PD = PD d S := by
  have e : eV i S = .ok d S := by unfold eV; rw [h]
  exact propext ⟨fun ⟨_, _, e2, p⟩ => (by rw [e] at e2; cases e2; exact p), fun p => ⟨d, S, e, p⟩⟩
theorem Ep_Vo {i : Nat} {ds : List D} (h : S[i]? = some (.own ds)) : Ep (eV i) S PD = PD (.list ds) (S.set i (.dat (.list ds))) := by
  have e : eV i S = .ok (.list ds) (S.set i (.dat (.list ds))) := by unfold eV; rw [h]
  exact propext ⟨fun ⟨_, _, e2, p⟩ => (by rw [e] at e2; cases e2; exact p), fun p => ⟨_, _, e, p⟩⟩
theorem Ep_Vd {i : Nat} {t : Bool} {es : List (D × D)} (h : S[i]? = some (.dic t es)) : Ep (eV i) S PD = PD (dictD t es) (S.set i (.dat (dictD t es))) := by
  have e : eV i S = .ok (dictD t es) (S.set i (.dat (dictD t es))) := by unfold eV; rw [h]
  exact propext ⟨fun ⟨_, _, e2, p⟩ => (by rw [e] at e2; cases e2; exact p), fun p => ⟨_, _, e, p⟩⟩
theorem Ep_VO {i : Nat} {d : D} (h : slotAt S i = some d) : Ep (eVO i) S PD = PD d S := by
  have e : eVO i S = .ok d S := by unfold eVO; rw [h]
  exact propext ⟨fun ⟨_, _, e2, p⟩ => (by rw [e] at e2; cases e2; exact p), fun p => ⟨_, _, e, p⟩⟩
theorem Ep_cons {f : EM D} {g : EM (List D)} : Ep (aCons f g) S PL = Ep f S fun d S1 => Ep g S1 fun ds S2 => PL (d :: ds) S2 := by
  unfold aCons
  simp only [Ep_bind, Ep_ret]
theorem Ep_bin {op : D → D → Option D} {fa fb : EM D} : Ep (eBin op fa fb) S PD = Ep fa S fun a S1 => Ep fb S1 fun b S2 => ∃ d, op a b = some d ∧ PD d S2 := by
  unfold eBin
  simp only [Ep_bind, Ep_opt]
theorem Ep_un {op : D → Option D} {fa : EM D} : Ep (eUn op fa) S PD = Ep fa S fun a S1 => ∃ d, op a = some d ∧ PD d S1 := by
  unfold eUn
  simp only [Ep_bind, Ep_opt]
theorem Ep_ix {fa fb : EM D} : Ep (eIx fa fb) S PD = Ep fa S fun a S1 => Ep fb S1 fun b S2 => ∃ d, ixD a b = some d ∧ PD d S2 := Ep_bin
theorem Ep_B {g : List D → Option D} {fa : EM (List D)} : Ep (eB g fa) S PD = Ep fa S fun a S1 => ∃ d, g a = some d ∧ PD d S1 := by
  unfold eB
  simp only [Ep_bind, Ep_opt]
theorem Ep_BF {g : List D → Option (List D)} {fa : EM (List D)} : Ep (eBF g fa) S PL = Ep fa S fun a S1 => ∃ d, g a = some d ∧ PL d S1 := by
  unfold eBF
  simp only [Ep_bind, Ep_opt]
theorem Ep_BO {g : List D → Option D} {i : Nat} {d0 : D} (h : slotAt S i = some d0) : Ep (eBO g i) S PD = ∃ d, g [d0] = some d ∧ PD d S := by
  have e : eBO g i S = eOpt (g [d0]) S := by unfold eBO; rw [h]
  unfold Ep
  rw [e]
  exact Ep_opt _
theorem Ep_tup {fa : EM (List D)} : Ep (eTup fa) S PD = Ep fa S fun ds S1 => small ds.length = true ∧ PD (.tuple ds) S1 := by
  unfold eTup
  simp only [Ep_bind, Ep_ite, Ep_ret, Ep_bad]
  congr 1
  funext ds S1
  split
  · rename_i h; simp [h]
  · rename_i h; simp [h]
theorem Ep_lst {fa : EM (List D)} : Ep (eLst fa) S PD = Ep fa S fun ds S1 => small ds.length = true ∧ PD (.list ds) S1 := by
  unfold eLst
  simp only [Ep_bind, Ep_ite, Ep_ret, Ep_bad]
  congr 1
  funext ds S1
  split
  · rename_i h; simp [h]
  · rename_i h; simp [h]
theorem Ep_lstF {fa : EM (List D)} : Ep (eBind fa fun ds => if small ds.length then eRet ds else fun _ => .bad) S PL = Ep fa S fun ds S1 => small ds.length = true ∧ PL ds S1 := by
  simp only [Ep_bind, Ep_ite, Ep_ret, Ep_bad]
  congr 1
  funext ds S1
  split
  · rename_i h; simp [h]
  · rename_i h; simp [h]
theorem Ep_bOf {f : EM D} : Ep (bOf f) S PB = Ep f S fun d S1 => ∃ b, asB d = some b ∧ PB b S1 := by
  unfold bOf
  simp only [Ep_bind, Ep_opt]
theorem Ep_and {f g : EM Bool} : Ep (bAnd f g) S PB = Ep f S fun b S1 => if b then Ep g S1 PB else PB false S1 := by
  unfold bAnd
  simp only [Ep_bind, Ep_ite, Ep_ret]
theorem Ep_or {f g : EM Bool} : Ep (bOr f g) S PB = Ep f S fun b S1 => if b then PB true S1 else Ep g S1 PB := by
  unfold bOr
  simp only [Ep_bind, Ep_ite, Ep_ret]
theorem Ep_not {f : EM Bool} : Ep (bNot f) S PB = Ep f S fun b S1 => PB (!b) S1 := by
  unfold bNot
  simp only [Ep_bind, Ep_ret]
theorem Ep_eAnd {f g : EM D} : Ep (eAnd f g) S PD = Ep f S fun d S1 => ∃ b, d = .bool b ∧ if b then Ep g S1 PD else PD (.bool false) S1 := by
  unfold eAnd
  rw [Ep_bind]
  congr 1
  funext d S1
  cases d with
  | bool b => cases b <;> simp [Ep_ret]
  | _ => simp [Ep_bad]
theorem Ep_eOr {f g : EM D} : Ep (eOr f g) S PD = Ep f S fun d S1 => ∃ b, d = .bool b ∧ if b then PD (.bool true) S1 else Ep g S1 PD := by
  unfold eOr
  rw [Ep_bind]
  congr 1
  funext d S1
  cases d with
  | bool b => cases b <;> simp [Ep_ret]
  | _ => simp [Ep_bad]
theorem Ep_eNot {f : EM D} : Ep (eNot f) S PD = Ep f S fun d S1 => ∃ b, d = .bool b ∧ PD (.bool (!b)) S1 := by
  unfold eNot
  rw [Ep_bind]
  congr 1
  funext d S1
  cases d with
  | bool b => simp [Ep_ret]
  | _ => simp [Ep_bad]
theorem Ep_eIf {t : EM Bool} {f g : EM D} : Ep (eIf t f g) S PD = Ep t S fun b S1 => if b then Ep f S1 PD else Ep g S1 PD := by
  unfold eIf
  simp only [Ep_bind, Ep_ite]
theorem Ep_sl {f : EM D} {lo hi : EM (Option Int)} : Ep (eSl f lo hi) S PD = Ep f S fun d S1 => Ep lo S1 fun l S2 => Ep hi S2 fun h S3 => ∃ r, slD d l h = some r ∧ PD r S3 := by
  unfold eSl
  simp only [Ep_bind, Ep_opt]
theorem Ep_fz {f : EM (List D)} : Ep (eFz f) S PD = Ep f S fun ds S1 => PD (.list ds) S1 := by
  unfold eFz
  simp only [Ep_bind, Ep_ret]
/-- what a def gives back -/
def Rp1 (r : Rs) (P : D → Prop) : Prop := ∃ d, r = .ok d ∧ P d
theorem Ep_rs {r : Rs} : Ep (rs0 r) S PD = Rp1 r fun d => PD d S := by
  cases r with
  | ok d => exact propext ⟨fun ⟨_, _, e, p⟩ => (by cases e; exact ⟨d, rfl, p⟩), fun ⟨_, e, p⟩ => (by cases e; exact ⟨d, S, rfl, p⟩)⟩
  | ex e => exact propext ⟨fun ⟨_, _, e, p⟩ => (nomatch e), fun ⟨_, e, p⟩ => (nomatch e)⟩
  | bad => exact propext ⟨fun ⟨_, _, e, p⟩ => (nomatch e), fun ⟨_, e, p⟩ => (nomatch e)⟩
theorem Ep_call {m : Nat} {g : List D → Rs} {fa : EM (List D)} : Ep (eCall m g fa) S PD = Ep fa S fun ds S1 => ds.length = m ∧ Rp1 (g ds) fun d => PD d S1 := by
  unfold eCall
  simp only [Ep_bind, Ep_ite, Ep_rs, Ep_bad]
  congr 1
  funext ds S1
  split
  · rename_i h; simp [h]
  · rename_i h; simp [h]
theorem Ep_meth {cls m : Str} {k : Nat} {g : List D → Rs} {fo : EM D} {fa : EM (List D)} : Ep (eMeth cls m k g fo fa) S PD = Ep fo S fun d S1 => isOb cls m d = true ∧ Ep fa S1 fun ds S2 => ds.length = k ∧ Rp1 (g (d :: ds)) fun r => PD r S2 := by
  unfold eMeth
  simp only [Ep_bind, Ep_ite, Ep_rs, Ep_bad]
  congr 1
  funext d S1
  split
  · rename_i h
    simp only [h, true_and]
    try simp only [Ep_bind, Ep_ite, Ep_rs, Ep_bad]
    congr 1
    funext ds S2
    split
    · rename_i h; simp [h]
    · rename_i h; simp [h]
  · rename_i h; simp [h, Ep_bad]
/-! ### statements -/
theorem Wp_nx : Wp sNx S Q = Q (.nx S) := propext ⟨fun h => h.2, fun h => ⟨rfl, h⟩⟩
theorem Wp_pass : Wp sPass S Q = Q (.nx S) := propext ⟨fun h => h.2, fun h => ⟨rfl, h⟩⟩
theorem Wp_brk : Wp sBrk S Q = Q (.bk S) := propext ⟨fun h => h.2, fun h => ⟨rfl, h⟩⟩
theorem Wp_cnt : Wp sCnt S Q = Q (.ct S) := propext ⟨fun h => h.2, fun h => ⟨rfl, h⟩⟩
theorem Wp_retN : Wp sRetN S Q = Q (.rt .none S) := propext ⟨fun h => h.2, fun h => ⟨rfl, h⟩⟩
/-- what comes behind a statement -/
def nxt (g : SM) (Q : Out → Prop) : Out → Prop
  | .nx S => Wp g S Q
  | o => Q o
theorem nxt_nx {g : SM} : nxt g Q (.nx S) = Wp g S Q := rfl
theorem nxt_rt {g : SM} {d : D} : nxt g Q (.rt d S) = Q (.rt d S) := rfl
theorem nxt_bk {g : SM} : nxt g Q (.bk S) = Q (.bk S) := rfl
theorem nxt_ct {g : SM} : nxt g Q (.ct S) = Q (.ct S) := rfl
theorem Wp_seq {f g : SM} : Wp (sSeq f g) S Q = Wp f S (nxt g Q) := by
  unfold Wp sSeq
  cases f S <;> simp [okO, nxt, Wp]
theorem Wp_of {m : EM α} {k : α → List Slot → Out} : Wp (sOf m k) S Q = Ep m S fun a S1 => okO (k a S1) = true ∧ Q (k a S1) := by
  unfold Wp sOf Ep
  cases e : m S with
  | ok a S1 => exact propext ⟨fun h => ⟨a, S1, rfl, h⟩, fun ⟨_, _, e2, h⟩ => (by cases e2; exact h)⟩
  | ex x S1 => exact propext ⟨fun h => absurd h.1 (by simp [okO]), fun ⟨_, _, e2, _⟩ => (nomatch e2)⟩
  | bad => exact propext ⟨fun h => absurd h.1 (by simp [okO]), fun ⟨_, _, e2, _⟩ => (nomatch e2)⟩
theorem Wp_asg {f : EM D} {g : Tg} : Wp (sAsg f g) S Q = Ep f S fun d S1 => ∃ S2, g d S1 = some S2 ∧ Q (.nx S2) := by
  unfold sAsg
  rw [Wp_of]
  congr 1
  funext d S1
  cases g d S1 <;> simp [okO]
theorem gN_some {i : Nat} {d : D} {S2 : List Slot} : (gN i d S = some S2) = (i < S.length ∧ S.set i (.dat d) = S2) := by
  unfold gN
  split
  · rename_i h; simp [h]
  · rename_i h; simp [h]
theorem Wp_set {i : Nat} {f : EM D} : Wp (sSet i f) S Q = Ep f S fun d S1 => i < S1.length ∧ Q (.nx (S1.set i (.dat d))) := by
  unfold sSet
  rw [Wp_asg]
  congr 1
  funext d S1
  simp only [gN_some]
  exact propext ⟨fun ⟨S2, ⟨h1, h2⟩, h3⟩ => ⟨h1, h2 ▸ h3⟩, fun ⟨h1, h3⟩ => ⟨_, ⟨h1, rfl⟩, h3⟩⟩
theorem Wp_own {i : Nat} {f : EM (List D)} : Wp (sOwn i f) S Q = Ep f S fun ds S1 => i < S1.length ∧ Q (.nx (S1.set i (.own ds))) := by
  unfold sOwn
  rw [Wp_of]
  congr 1
  funext d S1
  split
  · rename_i h; simp [h, okO]
  · rename_i h; simp [h, okO]
theorem Wp_dat {i : Nat} {f : EM (List D)} : Wp (sDat i f) S Q = Ep f S fun ds S1 => i < S1.length ∧ Q (.nx (S1.set i (.dat (.list ds)))) := by
  unfold sDat
  rw [Wp_of]
  congr 1
  funext d S1
  split
  · rename_i h; simp [h, okO]
  · rename_i h; simp [h, okO]
theorem Wp_dic {i : Nat} {t : Bool} {f : EM (List (D × D))} : Wp (sDic i t f) S Q = Ep f S fun es S1 => i < S1.length ∧ Q (.nx (S1.set i (.dic t es))) := by
  unfold sDic
  rw [Wp_of]
  congr 1
  funext d S1
  split
  · rename_i h; simp [h, okO]
  · rename_i h; simp [h, okO]
theorem Wp_ret {f : EM D} : Wp (sRet f) S Q = Ep f S fun d S1 => Q (.rt d S1) := by
  unfold sRet
  rw [Wp_of]
  simp [okO]
theorem Wp_expr {f : EM D} : Wp (sExpr f) S Q = Ep f S fun d S1 => Q (.nx S1) := by
  unfold sExpr
  rw [Wp_of]
  simp [okO]
theorem Wp_if {t : EM Bool} {f g : SM} : Wp (sIf t f g) S Q = Ep t S fun b S1 => if b then Wp f S1 Q else Wp g S1 Q := by
  unfold sIf
  rw [Wp_of]
  congr 1
  funext b S1
  cases b <;> rfl
theorem Wp_par {i j : Nat} {f : EM (List D)} : Wp (sPar i j f) S Q = Ep f S fun ds S1 => ∃ S2, gTwo i j ds S1 = some S2 ∧ Q (.nx S2) := by
  unfold sPar
  rw [Wp_of]
  congr 1
  funext d S1
  cases gTwo i j d S1 <;> simp [okO]
theorem Wp_par3 {i j l : Nat} {f : EM (List D)} : Wp (sPar3 i j l f) S Q = Ep f S fun ds S1 => ∃ S2, gThree i j l ds S1 = some S2 ∧ Q (.nx S2) := by
  unfold sPar3
  rw [Wp_of]
  congr 1
  funext d S1
  cases gThree i j l d S1 <;> simp [okO]
theorem Wp_aug {i : Nat} {g : D → D → Option D} {f : EM D} : Wp (sAug i g f) S Q = (match S[i]? with | some (.dat a) => Ep f S fun b S1 => ∃ d, g a b = some d ∧ Q (.nx (S1.set i (.dat d))) | _ => False) := by
  cases e : S[i]? with
  | none => unfold Wp sAug; simp [e, okO]
  | some s =>
    cases s with
    | dat a =>
      simp only
      have q := Wp_of (m := f) (k := fun b S' => match g a b with | some d => .nx (S'.set i (.dat d)) | none => .bad) (S := S) (Q := Q)
      have h : Wp (sAug i g f) S Q = Wp (sOf f fun b S' => match g a b with | some d => .nx (S'.set i (.dat d)) | none => .bad) S Q := by
        unfold Wp sAug
        simp only [e] <;> rfl
      rw [h, q]
      congr 1
      funext d S1
      cases g a d <;> simp [okO]
    | _ => unfold Wp sAug; simp [e, okO]
theorem Wp_for {src : EM (List D)} {g : Tg} {body : SM} : Wp (sFor src g body) S Q = Ep src S fun ds S1 => Wp (fun S => forL g body ds S) S1 Q := by
  unfold sFor
  rw [Wp_of]
  rfl
theorem Wp_while {n : Nat} {t : EM Bool} {body : SM} : Wp (sWhile n t body) S Q = Wp (whileL t body n) S Q := rfl
theorem Wp_setIx {i : Nat} {fe fk : EM D} : Wp (sSetIx i fe fk) S Q = Ep fe S fun d S1 => ∃ d0, slotAt S1 i = some d0 ∧ Ep fk S1 fun k S2 => ∃ s', ((S2[i]?).bind fun s => setAtD s k d) = some s' ∧ Q (.nx (S2.set i s')) := by
  unfold sSetIx
  rw [Wp_of]
  congr 1
  funext d S1
  cases e : slotAt S1 i with
  | none => simp [okO]
  | some d0 =>
    simp only [Option.some.injEq, exists_eq_left']
    have q := Wp_of (m := fk) (k := fun k S => match (S[i]?).bind fun s => setAtD s k d with | some s' => .nx (S.set i s') | none => .bad) (S := S1) (Q := Q)
    unfold Wp at q
    refine Eq.trans (show _ = _ from rfl) (q.trans ?_)
    congr 1
    funext k S2
    cases (S2[i]?).bind fun s => setAtD s k d <;> simp [okO]
theorem ok_ex {x : α} {S0 : List Slot} : (∃ a S', (Er.ok x S0 : Er α) = .ok a S' ∧ P a S') = P x S0 := propext ⟨fun ⟨_, _, e, p⟩ => (by cases e; exact p), fun p => ⟨_, _, rfl, p⟩⟩
theorem bad_ex : (∃ a S', (Er.bad : Er α) = .ok a S' ∧ P a S') = False := propext ⟨fun ⟨_, _, e, _⟩ => (nomatch e), False.elim⟩
theorem Ep_Vm {i : Nat} : Ep (eV i) S PD = (match S[i]? with | some (.dat d) => PD d S | some (.own ds) => PD (.list ds) (S.set i (.dat (.list ds))) | some (.dic t es) => PD (dictD t es) (S.set i (.dat (dictD t es))) | _ => False) := by
  unfold Ep eV
  cases S[i]? with
  | none => exact bad_ex
  | some s => cases s <;> first | exact ok_ex | exact bad_ex
theorem Ep_mut {i : Nat} {g : List D → List D → Option (D × List D)} {fa : EM (List D)} : Ep (eMut i g fa) S PD = (match S[i]? with | some (.own _) => Ep fa S fun as S1 => (match S1[i]? with | some (.own ds) => ∃ r, g ds as = some r ∧ PD r.1 (S1.set i (.own r.2)) | _ => False) | _ => False) := by
  cases e : S[i]? with
  | none => unfold Ep eMut; simp only [e]; exact bad_ex
  | some s =>
    cases s with
    | own ds0 =>
      simp only
      have h : Ep (eMut i g fa) S PD = Ep (eBind fa (fun as S => match S[i]? with
    | some (.own ds) => (match g ds as with
      | some (d, ds') => .ok d (S.set i (.own ds'))
      | none => .bad)
    | _ => .bad)) S PD := by
        unfold Ep eMut
        simp only [e] <;> rfl
      rw [h, Ep_bind]
      congr 1
      funext as S1
      unfold Ep
      cases e1 : S1[i]? with
      | none => simp only [e1]; exact bad_ex
      | some s =>
        cases s with
        | own ds =>
          cases e2 : g ds as with
          | none => simp only [e1, e2]; rw [bad_ex]; simp
          | some r =>
            obtain ⟨d, ds'⟩ := r
            simp only [e1, e2]
            rw [ok_ex]
            simp
        | _ => simp only [e1]; exact bad_ex
    | _ => unfold Ep eMut; simp only [e]; exact bad_ex
theorem R_run {n : Nat} {b : SM} {ds : List D} {P : D → Prop} (h : Wp b (startS ds n) fun o => match o with | .rt d _ => P d | .nx _ => P .none | _ => False) : Rp1 (runF n b ds) P := by
  unfold Wp at h
  unfold runF outR Rp1
  cases e : b (startS ds n) with
  | rt d S => rw [e] at h; exact ⟨d, rfl, h.2⟩
  | nx S => rw [e] at h; exact ⟨_, rfl, h.2⟩
  | bk S => rw [e] at h; exact h.2.elim
  | ct S => rw [e] at h; exact h.2.elim
  | ex x S => rw [e] at h; exact h.2.elim
  | bad => rw [e] at h; exact h.2.elim
theorem Rp1.eq {r : Rs} {d : D} (h : Rp1 r fun x => x = d) : r = .ok d := by
  obtain ⟨x, e, rfl⟩ := h
  exact e
theorem Rp1.of {r : Rs} {d : D} {P : D → Prop} (e : r = .ok d) (p : P d) : Rp1 r P := ⟨d, e, p⟩
/-! ### loops -/
theorem for_nx {g : Tg} {body : SM} {α : Type} (st : α → List Slot) (step : α → D → α) (I : α → Prop) : ∀ (ds : List D) (s : α), I s → (∀ d ∈ ds, ∀ s, I s → I (step s d) ∧ ∃ S1, g d (st s) = some S1 ∧ Wp body S1 fun o => o = .nx (st (step s d)) ∨ o = .ct (st (step s d))) →
    forL g body ds (st s) = .nx (st (ds.foldl step s)) ∧ I (ds.foldl step s)
  | [], s, hs, _ => ⟨rfl, hs⟩
  | d :: ds, s, hs, h => by
    obtain ⟨h1, S1, e1, e2⟩ := h d List.mem_cons_self s hs
    unfold forL
    rw [e1]
    have ih := for_nx st step I ds (step s d) h1 fun d' m => h d' (List.mem_cons_of_mem _ m)
    rcases e2.2 with e2 | e2
    · simp only [e2]
      exact ih
    · simp only [e2]
      exact ih
theorem W_forL {g : Tg} {body : SM} {α : Type} {ds : List D} (st : α → List Slot) (step : α → D → α) (I : α → Prop) (s : α) (hs : I s) (h : ∀ d ∈ ds, ∀ s, I s → I (step s d) ∧ ∃ S1, g d (st s) = some S1 ∧ Wp body S1 fun o => o = .nx (st (step s d)) ∨ o = .ct (st (step s d)))
    (q : I (ds.foldl step s) → Q (.nx (st (ds.foldl step s)))) : Wp (fun S => forL g body ds S) (st s) Q := by
  obtain ⟨e, i⟩ := for_nx st step I ds s hs h
  unfold Wp
  simp only [e]
  exact ⟨rfl, q i⟩
theorem for_ix {g : Tg} {body : SM} {α : Type} (st : α → List Slot) (step : α → D → α) (I : Nat → α → Prop) (ds0 : List D) : ∀ (ds : List D) (i : Nat) (s : α), ds = ds0.drop i → I i s → (∀ i d, ds0[i]? = some d → ∀ s, I i s → I (i + 1) (step s d) ∧ ∃ S1, g d (st s) = some S1 ∧ Wp body S1 fun o => o = .nx (st (step s d)) ∨ o = .ct (st (step s d))) →
    forL g body ds (st s) = .nx (st (ds.foldl step s)) ∧ I (i + ds.length) (ds.foldl step s)
  | [], i, s, _, hs, _ => ⟨rfl, hs⟩
  | d :: ds, i, s, ed, hs, h => by
    have e0 : ds0[i]? = some d := by
      have := congrArg List.head? ed
      simpa [List.head?_drop] using this.symm
    have e3 : ds = ds0.drop (i + 1) := by
      have := congrArg List.tail ed
      simpa [List.tail_drop] using this
    obtain ⟨h1, S1, e1, e2⟩ := h i d e0 s hs
    unfold forL
    rw [e1]
    have ih := for_ix st step I ds0 ds (i + 1) (step s d) e3 h1 h
    rw [show i + 1 + ds.length = i + (d :: ds).length by simp; omega] at ih
    rcases e2.2 with e2 | e2
    · simp only [e2]
      exact ih
    · simp only [e2]
      exact ih
/-- a loop, with the number of turns so far -/
theorem W_forI {g : Tg} {body : SM} {α : Type} {ds : List D} (st : α → List Slot) (step : α → D → α) (I : Nat → α → Prop) (s : α) (hs : I 0 s) (h : ∀ i d, ds[i]? = some d → ∀ s, I i s → I (i + 1) (step s d) ∧ ∃ S1, g d (st s) = some S1 ∧ Wp body S1 fun o => o = .nx (st (step s d)) ∨ o = .ct (st (step s d)))
    (q : I ds.length (ds.foldl step s) → Q (.nx (st (ds.foldl step s)))) : Wp (fun S => forL g body ds S) (st s) Q := by
  obtain ⟨e, i⟩ := for_ix st step I ds ds 0 s rfl hs h
  rw [Nat.zero_add] at i
  unfold Wp
  simp only [e]
  exact ⟨rfl, q i⟩
/-- a block that keeps what stands beside it -/
theorem comp_map {own : List Nat} {g : Tg} {t : EM Bool} {e : EM D} (base : List Slot) (p : D → Bool) (f : D → D) : ∀ (ds : List D), (∀ d ∈ ds, ∃ S1, g d base = some S1 ∧ wipeS own S1 = base ∧ Ep t S1 fun b S2 => b = p d ∧ S2 = S1 ∧ (b = true → Ep e S1 fun y S3 => y = f d ∧ S3 = S1)) →
    compL own g t e ds base = .ok ((ds.filter p).map f) base
  | [], _ => rfl
  | d :: ds, h => by
    obtain ⟨S1, e1, e3, b, S2, e2, rfl, rfl, e4⟩ := h d List.mem_cons_self
    have ih := comp_map base p f ds fun d' m => h d' (List.mem_cons_of_mem _ m)
    unfold compL
    rw [e1]
    simp only
    rw [e2]
    cases hp : p d with
    | true =>
      obtain ⟨y, S3, e5, rfl, rfl⟩ := e4 hp
      simp only
      rw [e5]
      simp only
      rw [e3, ih, List.filter_cons_of_pos hp]
      rfl
    | false =>
      simp only
      rw [e3, ih, List.filter_cons_of_neg (by rw [hp]; simp)]
theorem E_comp {own : List Nat} {src : EM (List D)} {g : Tg} {t : EM Bool} {e : EM D} (p : D → Bool) (f : D → D) (h : Ep src S fun ds S1 => plainAt own S1 = true ∧ small ds.length = true ∧ restS own S1 (wipeS own S1) = S1 ∧
      (∀ d ∈ ds, ∃ S2, g d (wipeS own S1) = some S2 ∧ wipeS own S2 = wipeS own S1 ∧ Ep t S2 fun b S3 => b = p d ∧ S3 = S2 ∧ (b = true → Ep e S2 fun y S4 => y = f d ∧ S4 = S2)) ∧ PL ((ds.filter p).map f) S1) : Ep (eComp own src g t e) S PL := by
  obtain ⟨ds, S1, e1, hp, hs, hr, hb, q⟩ := h
  refine ⟨_, S1, ?_, q⟩
  unfold eComp
  unfold eBind
  rw [e1]
  simp only [hp, hs, Bool.and_self, if_true]
  rw [comp_map (wipeS own S1) p f ds hb]
  simp only [hr]
theorem wipe1 (v : Nat) (S : List Slot) : wipeS [v] S = S.set v .un := rfl
theorem rest1 {v : Nat} {S : List Slot} (hv : v < S.length) : restS [v] S (S.set v .un) = S := by
  unfold restS
  rw [List.getElem?_eq_getElem hv]
  show (S.set v .un).set v S[v] = S
  rw [List.set_set, List.set_getElem_self]
/-- [e for v in src if t] where nothing but v changes -/
theorem E_sel {v : Nat} {src : EM (List D)} {t : EM Bool} {e : EM D} (ds : List D) (p : D → Bool) (f : D → D) (h0 : Ep src S fun ds' S1 => ds' = ds ∧ S1 = S) (hv : v < S.length) (pl : plainAt [v] S = true) (hs : ds.length ≤ 1000000)
    (ht : ∀ d ∈ ds, Ep t (S.set v (.dat d)) fun b S3 => b = p d ∧ S3 = S.set v (.dat d)) (he : ∀ d ∈ ds, p d = true → Ep e (S.set v (.dat d)) fun y S3 => y = f d ∧ S3 = S.set v (.dat d)) (q : PL ((ds.filter p).map f) S) : Ep (eComp [v] src (gN v) t e) S PL := by
  refine E_comp p f (h0.mono fun ds' S1 h => ?_)
  obtain ⟨rfl, rfl⟩ := h
  refine ⟨pl, ?_, by rw [wipe1]; exact rest1 hv, fun d hd => ⟨S1.set v (.dat d), ?_, ?_, ?_⟩, q⟩
  · have : (1000000 : Nat) ≤ sizeLine := by decide
    unfold small
    simp
    omega
  · rw [wipe1]
    unfold gN
    rw [if_pos (by rw [List.length_set]; exact hv), List.set_set]
  · rw [wipe1, wipe1, List.set_set]
  · refine (ht d hd).mono fun b S3 h => ?_
    obtain ⟨rfl, rfl⟩ := h
    exact ⟨rfl, rfl, fun hb => he d hd hb⟩
/-- [e for v in src] -/
theorem E_map {v : Nat} {src : EM (List D)} {e : EM D} (ds : List D) (f : D → D) (h0 : Ep src S fun ds' S1 => ds' = ds ∧ S1 = S) (hv : v < S.length) (pl : plainAt [v] S = true) (hs : ds.length ≤ 1000000)
    (he : ∀ d ∈ ds, Ep e (S.set v (.dat d)) fun y S3 => y = f d ∧ S3 = S.set v (.dat d)) (q : PL (ds.map f) S) : Ep (eComp [v] src (gN v) bYes e) S PL := by
  refine E_sel ds (fun _ => true) f h0 hv pl hs (fun d _ => ?_) (fun d hd _ => he d hd) ?_
  · rw [Ep_yes]
    exact ⟨rfl, rfl⟩
  · rw [List.filter_eq_self.mpr fun _ _ => rfl]
    exact q
/-- .. over a range -/
theorem E_mapR {v : Nat} {src : EM (List D)} {e : EM D} (n : Nat) (f : Nat → D) (h0 : Ep src S fun ds' S1 => ds' = (List.range n).map (fun i => PyData.int (i : Nat)) ∧ S1 = S) (hv : v < S.length) (pl : plainAt [v] S = true) (hs : n ≤ 1000000)
    (he : ∀ i, i < n → Ep e (S.set v (.dat (.int (i : Nat)))) fun y S3 => y = f i ∧ S3 = S.set v (.dat (.int (i : Nat)))) (q : PL ((List.range n).map f) S) : Ep (eComp [v] src (gN v) bYes e) S PL := by
  refine E_map _ (fun d => match d with | .int i => f i.toNat | _ => .none) h0 hv pl (by simpa using hs) (fun d hd => ?_) ?_
  · obtain ⟨i, hi, rfl⟩ := List.mem_map.mp hd
    simpa using he i (List.mem_range.mp hi)
  · rw [List.map_map]
    exact q
theorem E_selR {v : Nat} {src : EM (List D)} {t : EM Bool} {e : EM D} (n : Nat) (p : Nat → Bool) (f : Nat → D) (h0 : Ep src S fun ds' S1 => ds' = (List.range n).map (fun i => PyData.int (i : Nat)) ∧ S1 = S) (hv : v < S.length) (pl : plainAt [v] S = true) (hs : n ≤ 1000000)
    (ht : ∀ i, i < n → Ep t (S.set v (.dat (.int (i : Nat)))) fun b S3 => b = p i ∧ S3 = S.set v (.dat (.int (i : Nat))))
    (he : ∀ i, i < n → p i = true → Ep e (S.set v (.dat (.int (i : Nat)))) fun y S3 => y = f i ∧ S3 = S.set v (.dat (.int (i : Nat)))) (q : PL (((List.range n).filter p).map f) S) : Ep (eComp [v] src (gN v) t e) S PL := by
  refine E_sel _ (fun d => match d with | .int i => p i.toNat | _ => false) (fun d => match d with | .int i => f i.toNat | _ => .none) h0 hv pl (by simpa using hs) (fun d hd => ?_) (fun d hd => ?_) ?_
  · obtain ⟨i, hi, rfl⟩ := List.mem_map.mp hd
    simpa using ht i (List.mem_range.mp hi)
  · obtain ⟨i, hi, rfl⟩ := List.mem_map.mp hd
    simpa using he i (List.mem_range.mp hi)
  · rw [List.filter_map, List.map_map]
    exact q
theorem Ep_rng1 {f : EM (List D)} : Ep (iR1 f) S PL = Ep f S fun ds S1 => ∃ r, rng1 ds = some r ∧ PL r S1 := by
  unfold iR1
  simp only [Ep_bind, Ep_opt]
theorem Ep_rng2 {f : EM (List D)} : Ep (iR2 f) S PL = Ep f S fun ds S1 => ∃ r, rng2 ds = some r ∧ PL r S1 := by
  unfold iR2
  simp only [Ep_bind, Ep_opt]
theorem Ep_rng3 {f : EM (List D)} : Ep (iR3 f) S PL = Ep f S fun ds S1 => ∃ r, rng3 ds = some r ∧ PL r S1 := by
  unfold iR3
  simp only [Ep_bind, Ep_opt]
theorem Ep_iA {f : EM D} : Ep (iA f) S PL = Ep f S fun d S1 => ∃ r, walkA d = some r ∧ PL r S1 := by
  unfold iA
  simp only [Ep_bind, Ep_opt]
end
theorem modD_ii {i j : Int} (h : 0 < j) : modD (.int i) (.int j) = some (.int (i % j)) := by simp [modD, intOp, h]
theorem fdivD_ii {i j : Int} (h : 0 < j) (h2 : j < 2 ^ 200) : fdivD (.int i) (.int j) = some (.int (i / j)) := by
  have e : fdivD (.int i) (.int j) = (if 0 < j ∧ j < 2 ^ 200 then some (i / j) else none).map PyData.int := rfl
  rw [e, if_pos ⟨h, h2⟩]
  rfl
theorem addD_ii {i j : Int} : addD (.int i) (.int j) = some (.int (i + j)) := rfl
theorem subD_ii {i j : Int} : subD (.int i) (.int j) = some (.int (i - j)) := rfl
theorem mulD_ii {i j : Int} (h : -(2 ^ 64) < i ∧ i < 2 ^ 64 ∨ -(2 ^ 64) < j ∧ j < 2 ^ 64) : mulD (.int i) (.int j) = some (.int (i * j)) := by
  have e : mulD (.int i) (.int j) = (if (-(2 ^ 64) < i ∧ i < 2 ^ 64) ∨ (-(2 ^ 64) < j ∧ j < 2 ^ 64) then some (.int (i * j)) else none) := rfl
  rw [e, if_pos h]
theorem appD_one {ds : List D} {a : D} (h : ds.length < sizeLine) : appD ds [a] = some (.none, ds ++ [a]) := by simp [appD, h]
theorem small_of {n : Nat} (h : n ≤ 1000000) : small n = true := by
  have : (1000000 : Nat) ≤ sizeLine := by decide
  unfold small
  simp
  omega
theorem size_of {n : Nat} (h : n < 1000000) : n < sizeLine := by
  have : (1000000 : Nat) ≤ sizeLine := by decide
  omega
theorem ltD_ii {i j : Int} : ltD (.int i) (.int j) = some (.bool (decide (i < j))) := rfl
theorem leD_ii {i j : Int} : leD (.int i) (.int j) = some (.bool (decide (i ≤ j))) := rfl
theorem gtD_ii {i j : Int} : gtD (.int i) (.int j) = some (.bool (decide (j < i))) := rfl
theorem geD_ii {i j : Int} : geD (.int i) (.int j) = some (.bool (decide (j ≤ i))) := rfl
theorem eqD_ii {i j : Int} : eqD (.int i) (.int j) = some (.bool (decide (i = j))) := by
  have e : eqD (.int i) (.int j) = some (.bool (PyData.eqv (.int i) (.int j))) := rfl
  rw [e]
  congr 2
theorem neD_ii {i j : Int} : neD (.int i) (.int j) = some (.bool (!decide (i = j))) := by
  have e : neD (.int i) (.int j) = some (.bool (!PyData.eqv (.int i) (.int j))) := rfl
  rw [e]
  congr 2
theorem lenD_l {ds : List D} : lenD [.list ds] = some (.int ds.length) := rfl
theorem lenD_t {ds : List D} : lenD [.tuple ds] = some (.int ds.length) := rfl
theorem ixD_l {ds : List D} {i : Nat} {d : D} (h : ds[i]? = some d) : ixD (.list ds) (.int i) = some d := atI_nat h
theorem ixD_t {ds : List D} {i : Nat} {d : D} (h : ds[i]? = some d) : ixD (.tuple ds) (.int i) = some d := atI_nat h
theorem rng1_ok {n : Nat} (h : n < 2 ^ 62) : rng1 [.int n] = some ((List.range n).map fun i => .int (i : Nat)) := by
  have e : rng1 [.int n] = (if big62 n then some (intsD 0 (n : Int).toNat) else none) := rfl
  have b : big62 n = true := by
    unfold big62
    simp
    omega
  rw [e, if_pos b]
  unfold intsD
  simp
end FW

/-! FwU: plain reasoning about instances. -/
namespace FW
open PySem PySem.Spec L2
open PyProof.Rows hiding St
section
variable {S : List Slot} {PD : D → List Slot → Prop} {Q : Out → Prop}
theorem W_fld {i : Nat} {cls f : Str} {fe : EM D} (h : Ep fe S fun d S1 => ∃ a dx ns ds, S1[i]? = some (.obj a dx cls ns ds) ∧ ns.contains f = false ∧ ns.length < 1000 ∧ Q (.nx (S1.set i (.obj a dx cls (ns ++ [f]) (ds ++ [d]))))) : Wp (sFldSet i cls f fe) S Q := by
  unfold sFldSet
  rw [Wp_of]
  refine h.mono fun d S1 q => ?_
  obtain ⟨a, dx, ns, ds, e, h1, h2, q⟩ := q
  have hc : clsAt cls S1 i = true := by unfold clsAt; rw [e]; simp
  have hp : (S1[i]?).bind (putO f d) = some (.obj a dx cls (ns ++ [f]) (ds ++ [d])) := by
    rw [e]
    have : ¬ 1000 ≤ ns.length := by omega
    simp only [Option.bind_some, putO, h1, this, decide_false, Bool.or_self, Bool.false_eq_true, if_false]
  rw [if_pos hc, hp]
  exact ⟨rfl, q⟩
theorem g_fld {i : Nat} {cls f : Str} {d : D} {a dx : Addr} {ns : List Str} {ds : List D} (e : S[i]? = some (.obj a dx cls ns ds)) (h1 : ns.contains f = false) (h2 : ns.length < 1000) : gFld i cls f d S = some (S.set i (.obj a dx cls (ns ++ [f]) (ds ++ [d]))) := by
  have hc : clsAt cls S i = true := by unfold clsAt; rw [e]; simp
  have hp : (S[i]?).bind (putO f d) = some (.obj a dx cls (ns ++ [f]) (ds ++ [d])) := by
    rw [e]
    have : ¬ 1000 ≤ ns.length := by omega
    simp only [Option.bind_some, putO, h1, this, decide_false, Bool.or_self, Bool.false_eq_true, if_false]
  unfold gFld
  rw [if_pos hc, hp]
  rfl
theorem E_methO {i : Nat} {cls m : Str} {k : Nat} {g : List D → Rs} {fa : EM (List D)} {a dx : Addr} {ns : List Str} {ds : List D} (e : S[i]? = some (.obj a dx cls ns ds)) (h1 : ns.contains m = false)
    (h : Ep fa S fun as S1 => S1[i]? = some (.obj a dx cls ns ds) ∧ as.length = k ∧ ∃ n, g (obD cls ns ds :: as) = .ok (.int n) ∧ PD (.int n) S1) : Ep (eMethO i cls m k g fa) S PD := by
  have e0 : eMethO i cls m k g fa S = eBind fa (fun as S => match S[i]? with
    | some (.obj _ _ c ns ds) => if c = cls ∧ as.length = k then (match g (obD c ns ds :: as) with
      | .ok (.int n) => .ok (.int n) S
      | _ => .bad) else .bad
    | _ => .bad) S := by
    unfold eMethO
    rw [e]
    simp only [h1, and_self, if_true] <;> rfl
  have e1 : Ep (eBind fa (fun as S => match S[i]? with
    | some (.obj _ _ c ns ds) => if c = cls ∧ as.length = k then (match g (obD c ns ds :: as) with
      | .ok (.int n) => .ok (.int n) S
      | _ => .bad) else .bad
    | _ => .bad)) S PD := by
    rw [Ep_bind]
    refine h.mono fun as S1 q => ?_
    obtain ⟨q1, q2, n, q3, q4⟩ := q
    refine ⟨.int n, S1, ?_, q4⟩
    simp only [q1, q2, and_self, if_true, q3]
  obtain ⟨d, S2, e2, p⟩ := e1
  exact ⟨d, S2, e0.trans e2, p⟩
theorem Ep_kget {tab : List (Int × List Int)} {fk fx : EM D} : Ep (eKGet tab fk fx) S PD = Ep fk S fun k S1 => Ep fx S1 fun x S2 => ∃ i, k = .int i ∧ PD (tabD tab i x) S2 := by
  unfold eKGet
  simp only [Ep_bind]
  congr 1
  funext k S1
  congr 1
  funext x S2
  cases k <;> simp [Ep_ret, Ep_bad]
theorem Ep_make {cls : Str} {k : Nat} {g : List D → Option (List Str × List D)} {fa : EM (List D)} : Ep (eMake cls k g fa) S PD = Ep fa S fun as S1 => as.length = k ∧ ∃ ns ds, g as = some (ns, ds) ∧ PD (obD cls ns ds) S1 := by
  unfold eMake
  simp only [Ep_bind, Ep_ite, Ep_bad]
  congr 1
  funext as S1
  split
  · rename_i h
    cases e : g as with
    | none => simp [h, Ep_bad]
    | some p =>
      obtain ⟨ns, ds⟩ := p
      simp only [h, Ep_ret, true_and]
      exact propext ⟨fun q => ⟨_, _, rfl, q⟩, fun ⟨_, _, q1, q2⟩ => (by cases q1; exact q2)⟩
  · rename_i h; simp [h]
/-- what a def that makes an object leaves -/
theorem I_run {n : Nat} {body : SM} {cls : Str} {a dx : Addr} {as : List D} {ns : List Str} {ds : List D} (h : Wp body (.obj a dx cls [] [] :: startS as (n - 1)) fun o => ∃ S, o = .nx (.obj a dx cls ns ds :: S)) : runI n body cls a dx as = some (ns, ds) := by
  obtain ⟨_, S, e⟩ := h
  unfold runI
  rw [e]
  unfold outI
  simp
theorem Ep_idx {fo fk : EM D} : Ep (eIdx fo fk) S PD = Ep fo S fun d S1 => ∃ ds, d = .list ds ∧ Ep fk S1 fun k S2 => ∃ r, idxD (.list ds) k = some r ∧ PD r S2 := by
  unfold eIdx
  simp only [Ep_bind]
  congr 1
  funext d S1
  cases d with
  | list ds =>
    simp only [Ep_ret, Ep_bind, Ep_opt]
    exact propext ⟨fun q => ⟨ds, rfl, q⟩, fun ⟨_, e, q⟩ => (by cases e; exact q)⟩
  | _ => simp [Ep_bad]
/-! ### while -/
theorem while_n {t : EM Bool} {body : SM} (st : Nat → List Slot) (k : Nat) (ht : ∀ i, i < k → Ep t (st i) fun b S1 => b = true ∧ S1 = st i) (hb : ∀ i, i < k → Wp body (st i) fun o => o = .nx (st (i + 1)) ∨ o = .ct (st (i + 1))) (he : Ep t (st k) fun b S1 => b = false ∧ S1 = st k) :
    ∀ (j n : Nat), j ≤ k → k - j < n → whileL t body n (st j) = .nx (st k) := by
  intro j n hj hn
  induction n generalizing j with
  | zero => omega
  | succ n ih =>
    by_cases e : j = k
    · subst e
      obtain ⟨b, S1, e1, rfl, rfl⟩ := he
      unfold whileL
      rw [e1]
    · obtain ⟨b, S1, e1, rfl, rfl⟩ := ht j (by omega)
      obtain ⟨_, e2⟩ := hb j (by omega)
      unfold whileL
      rw [e1]
      rcases e2 with e2 | e2
      · simp only [e2]
        exact ih (j + 1) (by omega) (by omega)
      · simp only [e2]
        exact ih (j + 1) (by omega) (by omega)
/-- a loop that goes k times -/
theorem W_whileN {n : Nat} {t : EM Bool} {body : SM} (st : Nat → List Slot) (k : Nat) (hs : S = st 0) (hk : k < n) (ht : ∀ i, i < k → Ep t (st i) fun b S1 => b = true ∧ S1 = st i) (hb : ∀ i, i < k → Wp body (st i) fun o => o = .nx (st (i + 1)) ∨ o = .ct (st (i + 1))) (he : Ep t (st k) fun b S1 => b = false ∧ S1 = st k) (q : Q (.nx (st k))) : Wp (whileL t body n) S Q := by
  subst hs
  have e := while_n st k ht hb he 0 n (by omega) (by omega)
  unfold Wp
  rw [e]
  exact ⟨rfl, q⟩
end
/-! ### rows of small numbers -/
def nI (k : Nat) : D := .int (k : Nat)
theorem nI_eq (k : Nat) : nI k = .int (k : Nat) := rfl
/-- a list or a tuple of numbers -/
def Row (d : D) (xs : List Nat) : Prop := d = .list (xs.map nI) ∨ d = .tuple (xs.map nI)
theorem getN {xs : List Nat} {k : Nat} (h : k < xs.length) : (xs.map nI)[k]? = some (nI (xs.getD k 0)) := by
  rw [List.getElem?_map, List.getElem?_eq_getElem h, List.getD_eq_getElem?_getD, List.getElem?_eq_getElem h]
  rfl
theorem Row.len {d : D} {xs : List Nat} (h : Row d xs) : lenD [d] = some (.int xs.length) := by
  rcases h with rfl | rfl
  · rw [lenD_l, List.length_map]
  · rw [lenD_t, List.length_map]
theorem Row.ix {d : D} {xs : List Nat} (h : Row d xs) {k : Nat} (hk : k < xs.length) : ixD d (.int k) = some (.int (xs.getD k 0 : Nat)) := by
  rcases h with rfl | rfl
  · exact ixD_l (getN hk)
  · exact ixD_t (getN hk)
theorem Row.walk {d : D} {xs : List Nat} (h : Row d xs) : walkA d = some (xs.map nI) := by
  rcases h with rfl | rfl <;> rfl
theorem rng2_ok {i j : Nat} (hi : i < 2 ^ 62) (h : j < 2 ^ 62) : rng2 [.int i, .int j] = some ((List.range (j - i)).map fun k => nI (i + k)) := by
  have e : rng2 [.int i, .int j] = (if big62 i && big62 j then some (intsD i ((j : Int) - i).toNat) else none) := rfl
  have b : (big62 i && big62 j) = true := by
    unfold big62
    simp
    omega
  rw [e, if_pos b]
  unfold intsD nI
  have : ((j : Int) - i).toNat = j - i := by omega
  rw [this]
  rfl
theorem rng2_1 {j : Nat} (h : j < 2 ^ 62) : rng2 [.int 1, .int j] = some ((List.range (j - 1)).map fun k => nI (1 + k)) := rng2_ok (i := 1) (by decide) h
/-- the first place of a number in a row -/
theorem idx_first {n : Nat} {g : Nat → Nat} {v j : Nat} (hj : j < n) (h1 : g j = v) (h2 : ∀ i, i < j → g i ≠ v) : idxD (.list ((List.range n).map fun c => .int (g c : Nat))) (.int (v : Nat)) = some (.int (j : Nat)) := by
  have e : (List.range n).map (fun c => PyData.int (g c : Nat)) = ((List.range n).map fun c => ((g c : Nat) : Int)).map PyData.int := by rw [List.map_map]; rfl
  rw [e]
  have e2 : idxD (.list (((List.range n).map fun c => ((g c : Nat) : Int)).map PyData.int)) (.int (v : Nat)) = (allI (((List.range n).map fun c => ((g c : Nat) : Int)).map PyData.int)).bind fun ns => (ns.findIdx? fun m => decide (m = ((v : Nat) : Int))).map fun j => .int (j : Nat) := rfl
  rw [e2, allI_map]
  have e3 : ((List.range n).map fun c => ((g c : Nat) : Int)).findIdx? (fun m => decide (m = ((v : Nat) : Int))) = some j := by
    rw [List.findIdx?_eq_some_iff_getElem]
    refine ⟨by simpa using hj, by simp [h1], fun i hi => ?_⟩
    have := h2 i hi
    simp
    omega
  rw [Option.bind_some, e3]
  rfl
end FW

/-! FwV: the same plain reasoning, from the top down: what comes behind is not looked at before it is reached. -/
namespace FW
open PySem PySem.Spec L2
open PyProof.Rows hiding St
universe uu
abbrev PropOf {β : Sort uu} (_ : β) : Type := Prop
def OpK {α : Type} (o : Option α) (P : α → Prop) : PropOf P := ∃ a, o = some a ∧ P a
def AndK (c X : Prop) : PropOf X := c ∧ X
def RsK (r : Rs) (P : D → Prop) : PropOf P := ∃ d, r = .ok d ∧ P d
abbrev PropOf2 (_ _ : Prop) : Type := Prop
def IteK (b : Bool) (X Y : Prop) : PropOf2 X Y := if b then X else Y
theorem IteK_t {X Y : Prop} : IteK true X Y = X := rfl
theorem IteK_f {X Y : Prop} : IteK false X Y = Y := rfl
theorem OpK_some {α : Type} {a : α} {P : α → Prop} : OpK (some a) P = P a := propext ⟨fun ⟨_, e, p⟩ => (by cases e; exact p), fun p => ⟨a, rfl, p⟩⟩
theorem AndK_t {X : Prop} : AndK True X = X := propext ⟨fun h => h.2, fun h => ⟨trivial, h⟩⟩
theorem RsK_ok {d : D} {P : D → Prop} : RsK (.ok d) P = P d := propext ⟨fun ⟨_, e, p⟩ => (by cases e; exact p), fun p => ⟨d, rfl, p⟩⟩
theorem OpK.of {α : Type} {o : Option α} {a : α} {P : α → Prop} (e : o = some a) (p : P a) : OpK o P := ⟨a, e, p⟩
theorem AndK.of {c X : Prop} (h : c) (x : X) : AndK c X := ⟨h, x⟩
theorem RsK.of {r : Rs} {d : D} {P : D → Prop} (e : r = .ok d) (p : P d) : RsK r P := ⟨d, e, p⟩
/-- as Ep and Wp, but what comes behind is not looked into -/
def EpK {α : Type} (m : EM α) (S : List Slot) (P : α → List Slot → Prop) : PropOf P := Ep m S P
def WpK (f : SM) (S : List Slot) (Q : Out → Prop) : PropOf Q := Wp f S Q
def nxtK (g : SM) (Q : Out → Prop) : Out → Prop
  | .nx S => WpK g S Q
  | o => Q o
theorem Ep_K {α : Type} {m : EM α} {S : List Slot} {P : α → List Slot → Prop} : Ep m S P = EpK m S P := rfl
theorem Wp_K {f : SM} {S : List Slot} {Q : Out → Prop} : Wp f S Q = WpK f S Q := rfl
theorem nxtK_nx {g : SM} {S : List Slot} {Q : Out → Prop} : nxtK g Q (.nx S) = WpK g S Q := rfl
theorem nxtK_rt {g : SM} {d : D} {S : List Slot} {Q : Out → Prop} : nxtK g Q (.rt d S) = Q (.rt d S) := rfl
theorem nxtK_bk {g : SM} {S : List Slot} {Q : Out → Prop} : nxtK g Q (.bk S) = Q (.bk S) := rfl
theorem nxtK_ct {g : SM} {S : List Slot} {Q : Out → Prop} : nxtK g Q (.ct S) = Q (.ct S) := rfl
theorem nxtK_ex {g : SM} {e : Exn} {S : List Slot} {Q : Out → Prop} : nxtK g Q (.ex e S) = Q (.ex e S) := rfl
section
variable {α β : Type} {S : List Slot} {P : α → List Slot → Prop} {PD : D → List Slot → Prop} {PL : List D → List Slot → Prop} {PB : Bool → List Slot → Prop} {PM : List (D × D) → List Slot → Prop} {PO : Option Int → List Slot → Prop} {Q : Out → Prop}
/-- what stands at a place -/
def VK (o : Option Slot) (S : List Slot) (i : Nat) (PD : D → List Slot → Prop) : PropOf PD := match o with
  | some (.dat d) => PD d S
  | some (.own ds) => PD (.list ds) (S.set i (.dat (.list ds)))
  | some (.dic t es) => PD (dictD t es) (S.set i (.dat (dictD t es)))
  | _ => False
theorem VK_dat {d : D} {i : Nat} : VK (some (.dat d)) S i PD = PD d S := rfl
theorem VK_own {ds : List D} {i : Nat} : VK (some (.own ds)) S i PD = PD (.list ds) (S.set i (.dat (.list ds))) := rfl
theorem VK_dic {t : Bool} {es : List (D × D)} {i : Nat} : VK (some (.dic t es)) S i PD = PD (dictD t es) (S.set i (.dat (dictD t es))) := rfl
theorem X_V {i : Nat} : EpK (eV i) S PD = VK (S[i]?) S i PD := Ep_Vm
theorem X_ret (a : α) : EpK (eRet a) S P = P a S := Ep_ret a
theorem X_opt (o : Option α) : EpK (eOpt o) S P = OpK o fun a => P a S := Ep_opt o
theorem X_bind {m : EM α} {g : α → EM β} {PB : β → List Slot → Prop} : EpK (eBind m g) S PB = EpK m S fun a S1 => EpK (g a) S1 PB := Ep_bind
theorem X_C (d : D) : EpK (eC d) S PD = PD d S := Ep_ret d
theorem X_nil : EpK aNil S PL = PL [] S := Ep_ret []
theorem X_no : EpK oNo S PO = PO none S := Ep_ret none
theorem X_some {f : EM D} : EpK (oSome f) S PO = EpK f S fun d S1 => OpK (asI d) fun i => PO (some i) S1 := Ep_some
theorem X_yes : EpK bYes S PB = PB true S := Ep_ret true
theorem X_cons {f : EM D} {g : EM (List D)} : EpK (aCons f g) S PL = EpK f S fun d S1 => EpK g S1 fun ds S2 => PL (d :: ds) S2 := Ep_cons
theorem X_bin {op : D → D → Option D} {fa fb : EM D} : EpK (eBin op fa fb) S PD = EpK fa S fun a S1 => EpK fb S1 fun b S2 => OpK (op a b) fun d => PD d S2 := Ep_bin
theorem X_un {op : D → Option D} {fa : EM D} : EpK (eUn op fa) S PD = EpK fa S fun a S1 => OpK (op a) fun d => PD d S1 := Ep_un
theorem X_ix {fa fb : EM D} : EpK (eIx fa fb) S PD = EpK fa S fun a S1 => EpK fb S1 fun b S2 => OpK (ixD a b) fun d => PD d S2 := Ep_bin
theorem X_B {g : List D → Option D} {fa : EM (List D)} : EpK (eB g fa) S PD = EpK fa S fun a S1 => OpK (g a) fun d => PD d S1 := Ep_B
theorem X_BF {g : List D → Option (List D)} {fa : EM (List D)} : EpK (eBF g fa) S PL = EpK fa S fun a S1 => OpK (g a) fun d => PL d S1 := Ep_BF
theorem X_binF {g : D → D → Option (List D)} {fa fb : EM D} : EpK (eBinF g fa fb) S PL = EpK fa S fun a S1 => EpK fb S1 fun b S2 => OpK (g a b) fun d => PL d S2 := by
  simp only [← Ep_K, ← Wp_K]
  unfold eBinF
  simp only [Ep_bind, Ep_opt]
  rfl
theorem small_le {n : Nat} (h : n ≤ 1000000) : small n = true := small_of h
theorem X_tup {fa : EM (List D)} : EpK (eTup fa) S PD = EpK fa S fun ds S1 => AndK (small ds.length = true) (PD (.tuple ds) S1) := Ep_tup
theorem X_lst {fa : EM (List D)} : EpK (eLst fa) S PD = EpK fa S fun ds S1 => AndK (small ds.length = true) (PD (.list ds) S1) := Ep_lst
theorem X_lstF {fa : EM (List D)} : EpK (eBind fa fun ds => if small ds.length then eRet ds else fun _ => .bad) S PL = EpK fa S fun ds S1 => AndK (small ds.length = true) (PL ds S1) := Ep_lstF
theorem X_bOf {f : EM D} : EpK (bOf f) S PB = EpK f S fun d S1 => OpK (asB d) fun b => PB b S1 := Ep_bOf
theorem X_and {f g : EM Bool} : EpK (bAnd f g) S PB = EpK f S fun b S1 => IteK b (EpK g S1 PB) (PB false S1) := Ep_and
theorem X_or {f g : EM Bool} : EpK (bOr f g) S PB = EpK f S fun b S1 => IteK b (PB true S1) (EpK g S1 PB) := Ep_or
theorem X_not {f : EM Bool} : EpK (bNot f) S PB = EpK f S fun b S1 => PB (!b) S1 := Ep_not
def BoK (d : D) (P : Bool → Prop) : PropOf P := ∃ b, d = .bool b ∧ P b
theorem BoK_b {b : Bool} {P : Bool → Prop} : BoK (.bool b) P = P b := propext ⟨fun ⟨_, e, p⟩ => (by cases e; exact p), fun p => ⟨b, rfl, p⟩⟩
theorem X_eAnd {f g : EM D} : EpK (eAnd f g) S PD = EpK f S fun d S1 => BoK d fun b => IteK b (EpK g S1 PD) (PD (.bool false) S1) := Ep_eAnd
theorem X_eOr {f g : EM D} : EpK (eOr f g) S PD = EpK f S fun d S1 => BoK d fun b => IteK b (PD (.bool true) S1) (EpK g S1 PD) := Ep_eOr
theorem X_eNot {f : EM D} : EpK (eNot f) S PD = EpK f S fun d S1 => BoK d fun b => PD (.bool (!b)) S1 := Ep_eNot
theorem X_eIf {t : EM Bool} {f g : EM D} : EpK (eIf t f g) S PD = EpK t S fun b S1 => IteK b (EpK f S1 PD) (EpK g S1 PD) := Ep_eIf
theorem X_sl {f : EM D} {lo hi : EM (Option Int)} : EpK (eSl f lo hi) S PD = EpK f S fun d S1 => EpK lo S1 fun l S2 => EpK hi S2 fun h S3 => OpK (slD d l h) fun r => PD r S3 := Ep_sl
theorem X_fz {f : EM (List D)} : EpK (eFz f) S PD = EpK f S fun ds S1 => PD (.list ds) S1 := Ep_fz
theorem X_chain {g g' : D → D → Option D} {fa fb fc : EM D} : EpK (eChain g g' fa fb fc) S PD = EpK fa S fun a S1 => EpK fb S1 fun b S2 => OpK (g a b) fun k => BoK k fun t => IteK t (EpK fc S2 fun c S3 => OpK (g' b c) fun d => PD d S3) (PD (.bool false) S2) := by
  simp only [← Ep_K, ← Wp_K]
  unfold eChain
  simp only [Ep_bind, Ep_opt]
  congr 1
  funext a S1
  congr 1
  funext b S2
  unfold OpK
  congr 1
  funext k
  congr 1
  cases k with
  | bool t =>
    show _ = BoK (.bool t) _
    rw [BoK_b]
    cases t
    · exact Ep_ret _
    · simp only [Ep_bind, Ep_opt]
      rfl
  | _ => simp [BoK, Ep_bad]
theorem X_call {m : Nat} {g : List D → Rs} {fa : EM (List D)} : EpK (eCall m g fa) S PD = EpK fa S fun ds S1 => AndK (ds.length = m) (RsK (g ds) fun d => PD d S1) := Ep_call
theorem X_meth {cls m : Str} {k : Nat} {g : List D → Rs} {fo : EM D} {fa : EM (List D)} : EpK (eMeth cls m k g fo fa) S PD = EpK fo S fun d S1 => AndK (isOb cls m d = true) (EpK fa S1 fun ds S2 => AndK (ds.length = k) (RsK (g (d :: ds)) fun r => PD r S2)) := Ep_meth
theorem X_rng1 {f : EM (List D)} : EpK (iR1 f) S PL = EpK f S fun ds S1 => OpK (rng1 ds) fun r => PL r S1 := Ep_rng1
theorem X_rng2 {f : EM (List D)} : EpK (iR2 f) S PL = EpK f S fun ds S1 => OpK (rng2 ds) fun r => PL r S1 := Ep_rng2
theorem X_rng3 {f : EM (List D)} : EpK (iR3 f) S PL = EpK f S fun ds S1 => OpK (rng3 ds) fun r => PL r S1 := Ep_rng3
theorem X_iA {f : EM D} : EpK (iA f) S PL = EpK f S fun d S1 => OpK (walkA d) fun r => PL r S1 := Ep_iA
theorem X_lr1 {f : EM D} : EpK (eLr1 f) S PL = EpK f S fun d S1 => OpK (lr1 d) fun r => PL r S1 := by
  simp only [← Ep_K, ← Wp_K]
  unfold eLr1
  simp only [Ep_bind, Ep_opt]
  rfl
theorem X_lr2 {f g : EM D} : EpK (eLr2 f g) S PL = EpK f S fun d S1 => EpK g S1 fun e S2 => OpK (lr2 d e) fun r => PL r S2 := by
  simp only [← Ep_K, ← Wp_K]
  unfold eLr2
  simp only [Ep_bind, Ep_opt]
  rfl
theorem X_kget {tab : List (Int × List Int)} {fk fx : EM D} : EpK (eKGet tab fk fx) S PD = EpK fk S fun k S1 => EpK fx S1 fun x S2 => OpK (asI k) fun i => PD (tabD tab i x) S2 := by
  simp only [← Ep_K, ← Wp_K]
  rw [Ep_kget]
  congr 1
  funext k S1
  congr 1
  funext x S2
  cases k <;> simp [OpK, asI]
theorem X_make {cls : Str} {k : Nat} {g : List D → Option (List Str × List D)} {fa : EM (List D)} : EpK (eMake cls k g fa) S PD = EpK fa S fun as S1 => AndK (as.length = k) (OpK (g as) fun p => PD (obD cls p.1 p.2) S1) := by
  simp only [← Ep_K, ← Wp_K]
  rw [Ep_make]
  congr 1
  funext as S1
  unfold AndK OpK
  congr 1
  exact propext ⟨fun ⟨ns, ds, e, p⟩ => ⟨(ns, ds), e, p⟩, fun ⟨⟨ns, ds⟩, e, p⟩ => ⟨ns, ds, e, p⟩⟩
theorem X_get2 {fo fk fx : EM D} : EpK (eGet2 fo fk fx) S PD = EpK fo S fun d S1 => EpK fk S1 fun k S2 => EpK fx S2 fun x S3 => OpK (getDic d k) fun o => PD (o.getD x) S3 := by
  simp only [← Ep_K, ← Wp_K]
  unfold eGet2
  simp only [Ep_bind, Ep_opt]
  congr 1
  funext d S1
  congr 1
  funext k S2
  congr 1
  funext x S3
  unfold OpK
  cases getDic d k <;> simp
theorem X_get1 {fo fk : EM D} : EpK (eGet1 fo fk) S PD = EpK fo S fun d S1 => EpK fk S1 fun k S2 => OpK (getDic d k) fun o => PD (o.getD .none) S2 := by
  simp only [← Ep_K, ← Wp_K]
  unfold eGet1
  simp only [Ep_bind, Ep_opt]
  congr 1
  funext d S1
  congr 1
  funext k S2
  unfold OpK
  cases getDic d k <;> simp
theorem X_eDic {f : EM D} : EpK (eDic f) S PD = EpK f S fun d S1 => AndK ((dicOf d).isSome = true) (PD d S1) := by
  simp only [← Ep_K, ← Wp_K]
  unfold eDic
  simp only [Ep_bind, Ep_ite, Ep_ret, Ep_bad]
  congr 1
  funext d S1
  unfold AndK
  split
  · rename_i h; simp [h]
  · rename_i h; simp [h]
def LsK (d : D) (P : List D → Prop) : PropOf P := ∃ ds, d = .list ds ∧ P ds
theorem LsK_l {ds : List D} {P : List D → Prop} : LsK (.list ds) P = P ds := propext ⟨fun ⟨_, e, p⟩ => (by cases e; exact p), fun p => ⟨ds, rfl, p⟩⟩
theorem X_idx {fo fk : EM D} : EpK (eIdx fo fk) S PD = EpK fo S fun d S1 => LsK d fun ds => EpK fk S1 fun k S2 => OpK (idxD (.list ds) k) fun r => PD r S2 := Ep_idx
/-! what is read where it stands -/
theorem X_VO {i : Nat} : EpK (eVO i) S PD = OpK (slotAt S i) fun d => PD d S := by
  simp only [← Ep_K, ← Wp_K]
  unfold Ep eVO OpK
  cases slotAt S i with
  | none => simp
  | some d => exact propext ⟨fun ⟨_, _, e, p⟩ => (by cases e; exact ⟨_, rfl, p⟩), fun ⟨_, e, p⟩ => (by cases e; exact ⟨_, _, rfl, p⟩)⟩
theorem X_BO {g : List D → Option D} {i : Nat} : EpK (eBO g i) S PD = OpK (slotAt S i) fun d => OpK (g [d]) fun r => PD r S := by
  simp only [← Ep_K, ← Wp_K]
  cases e : slotAt S i with
  | none =>
    have : eBO g i S = .bad := by unfold eBO; rw [e]
    unfold Ep OpK
    rw [this]
    simp
  | some d => rw [Ep_BO e, OpK_some]; rfl
theorem X_BFO {g : List D → Option (List D)} {i : Nat} : EpK (eBFO g i) S PL = OpK (slotAt S i) fun d => OpK (g [d]) fun r => PL r S := by
  simp only [← Ep_K, ← Wp_K]
  cases e : slotAt S i with
  | none =>
    have : eBFO g i S = .bad := by unfold eBFO; rw [e]
    unfold Ep OpK
    rw [this]
    simp
  | some d =>
    have : eBFO g i S = eOpt (g [d]) S := by unfold eBFO; rw [e]
    rw [OpK_some]
    unfold Ep
    rw [this]
    exact Ep_opt _
theorem X_binO {g : D → D → Option D} {i : Nat} {fb : EM D} : EpK (eBinO g i fb) S PD = OpK (slotAt S i) fun _ => EpK fb S fun b S1 => OpK (slotAt S1 i) fun a => OpK (g a b) fun d => PD d S1 := by
  simp only [← Ep_K, ← Wp_K]
  cases e : slotAt S i with
  | none =>
    have : eBinO g i fb S = .bad := by unfold eBinO; rw [e]
    unfold Ep OpK
    rw [this]
    simp
  | some d =>
    rw [OpK_some]
    have h : eBinO g i fb S = eBind fb (fun b S => match slotAt S i with | some a => eOpt (g a b) S | none => .bad) S := by
      unfold eBinO
      simp only [e] <;> rfl
    have h2 : Ep (eBinO g i fb) S PD = Ep (eBind fb (fun b S => match slotAt S i with | some a => eOpt (g a b) S | none => .bad)) S PD := by unfold Ep; rw [h]
    rw [h2, Ep_bind]
    congr 1
    funext b S1
    cases e1 : slotAt S1 i with
    | none => unfold Ep OpK; simp [e1]
    | some a =>
      rw [OpK_some]
      have : Ep (fun S => match slotAt S i with | some a => eOpt (g a b) S | none => .bad) S1 PD = Ep (eOpt (g a b)) S1 PD := by
        unfold Ep
        simp only [e1]
      exact this.trans (Ep_opt _)
theorem X_ixO {i : Nat} {fb : EM D} : EpK (eIxO i fb) S PD = OpK (slotAt S i) fun _ => EpK fb S fun b S1 => OpK (slotAt S1 i) fun a => OpK (ixD a b) fun d => PD d S1 := X_binO
theorem slotAt_eq {i : Nat} : slotAt S i = (S[i]?).bind slotO := rfl
theorem slotO_own {ds : List D} : slotO (.own ds) = some (.list ds) := rfl
theorem slotO_dic {t : Bool} {es : List (D × D)} : slotO (.dic t es) = some (dictD t es) := rfl
/-! what is changed where it stands -/
def MuK (o : Option Slot) (S : List Slot) (i : Nat) (g : List D → List D → Option (D × List D)) (as : List D) (PD : D → List Slot → Prop) : PropOf PD := match o with
  | some (.own ds) => OpK (g ds as) fun r => PD r.1 (S.set i (.own r.2))
  | _ => False
theorem MuK_own {ds : List D} {i : Nat} {g : List D → List D → Option (D × List D)} {as : List D} : MuK (some (.own ds)) S i g as PD = OpK (g ds as) fun r => PD r.1 (S.set i (.own r.2)) := rfl
def OwK (o : Option Slot) (X : Prop) : PropOf X := match o with
  | some (.own _) => X
  | _ => False
theorem OwK_own {ds : List D} {X : Prop} : OwK (some (.own ds)) X = X := rfl
theorem X_mut {i : Nat} {g : List D → List D → Option (D × List D)} {fa : EM (List D)} : EpK (eMut i g fa) S PD = OwK (S[i]?) (EpK fa S fun as S1 => MuK (S1[i]?) S1 i g as PD) := Ep_mut
/-! statements -/
theorem Y_nx : WpK sNx S Q = Q (.nx S) := Wp_nx
theorem Y_pass : WpK sPass S Q = Q (.nx S) := Wp_pass
theorem Y_brk : WpK sBrk S Q = Q (.bk S) := Wp_brk
theorem Y_cnt : WpK sCnt S Q = Q (.ct S) := Wp_cnt
theorem Y_retN : WpK sRetN S Q = Q (.rt .none S) := Wp_retN
theorem Y_seq {f g : SM} : WpK (sSeq f g) S Q = WpK f S (nxtK g Q) := Wp_seq
theorem Y_asg {f : EM D} {g : Tg} : WpK (sAsg f g) S Q = EpK f S fun d S1 => OpK (g d S1) fun S2 => Q (.nx S2) := Wp_asg
theorem Y_set {i : Nat} {f : EM D} : WpK (sSet i f) S Q = EpK f S fun d S1 => AndK (i < S1.length) (Q (.nx (S1.set i (.dat d)))) := Wp_set
theorem Y_own {i : Nat} {f : EM (List D)} : WpK (sOwn i f) S Q = EpK f S fun ds S1 => AndK (i < S1.length) (Q (.nx (S1.set i (.own ds)))) := Wp_own
theorem Y_dat {i : Nat} {f : EM (List D)} : WpK (sDat i f) S Q = EpK f S fun ds S1 => AndK (i < S1.length) (Q (.nx (S1.set i (.dat (.list ds))))) := Wp_dat
theorem Y_dic {i : Nat} {t : Bool} {f : EM (List (D × D))} : WpK (sDic i t f) S Q = EpK f S fun es S1 => AndK (i < S1.length) (Q (.nx (S1.set i (.dic t es)))) := Wp_dic
theorem Y_ret {f : EM D} : WpK (sRet f) S Q = EpK f S fun d S1 => Q (.rt d S1) := Wp_ret
theorem Y_expr {f : EM D} : WpK (sExpr f) S Q = EpK f S fun d S1 => Q (.nx S1) := Wp_expr
theorem Y_if {t : EM Bool} {f g : SM} : WpK (sIf t f g) S Q = EpK t S fun b S1 => IteK b (WpK f S1 Q) (WpK g S1 Q) := Wp_if
theorem Y_par {i j : Nat} {f : EM (List D)} : WpK (sPar i j f) S Q = EpK f S fun ds S1 => OpK (gTwo i j ds S1) fun S2 => Q (.nx S2) := Wp_par
theorem Y_par3 {i j l : Nat} {f : EM (List D)} : WpK (sPar3 i j l f) S Q = EpK f S fun ds S1 => OpK (gThree i j l ds S1) fun S2 => Q (.nx S2) := Wp_par3
def AuK (o : Option Slot) (P : D → Prop) : PropOf P := match o with
  | some (.dat a) => P a
  | _ => False
theorem AuK_dat {d : D} {P : D → Prop} : AuK (some (.dat d)) P = P d := rfl
theorem Y_aug {i : Nat} {g : D → D → Option D} {f : EM D} : WpK (sAug i g f) S Q = AuK (S[i]?) fun a => EpK f S fun b S1 => OpK (g a b) fun d => Q (.nx (S1.set i (.dat d))) := Wp_aug
theorem Y_for {src : EM (List D)} {g : Tg} {body : SM} : WpK (sFor src g body) S Q = EpK src S fun ds S1 => WpK (fun S => forL g body ds S) S1 Q := Wp_for
theorem Y_while {n : Nat} {t : EM Bool} {body : SM} : WpK (sWhile n t body) S Q = WpK (whileL t body n) S Q := rfl
theorem Y_setIx {i : Nat} {fe fk : EM D} : WpK (sSetIx i fe fk) S Q = EpK fe S fun d S1 => OpK (slotAt S1 i) fun _ => EpK fk S1 fun k S2 => OpK ((S2[i]?).bind fun s => setAtD s k d) fun s' => Q (.nx (S2.set i s')) := by
  simp only [← Ep_K, ← Wp_K]
  rw [Wp_setIx]
  rfl
/-- targets -/
theorem g_N {i : Nat} {d : D} : gN i d S = if i < S.length then some (S.set i (.dat d)) else none := rfl
theorem g_two {i j : Nat} {a b : D} : gTwo i j [a, b] S = (gN i a S).bind fun S' => gN j b S' := rfl
theorem g_three {i j l : Nat} {a b c : D} : gThree i j l [a, b, c] S = (gN i a S).bind fun S' => (gN j b S').bind fun S'' => gN l c S'' := rfl
theorem g_T {n : Nat} {t : List D → List Slot → Option (List Slot)} {ds : List D} : gT t n (.tuple ds) S = if ds.length = n then t ds S else none := rfl
theorem g_L {n : Nat} {t : List D → List Slot → Option (List Slot)} {ds : List D} : gL t n (.list ds) S = if ds.length = n then t ds S else none := rfl
theorem g_nil : gsNil [] S = some S := rfl
theorem g_cons {g : Tg} {t : List D → List Slot → Option (List Slot)} {d : D} {ds : List D} : gsCons g t (d :: ds) S = (g d S).bind fun S' => t ds S' := rfl
end
theorem asB_b {b : Bool} : asB (.bool b) = some b := rfl
theorem asI_i {i : Int} : asI (.int i) = some i := rfl
theorem lt_l0 {α : Type} {a : α} {l : List α} : (0 < (a :: l).length) = True := by simp
theorem lt_ls {α : Type} {a : α} {l : List α} {i : Nat} : (i + 1 < (a :: l).length) = (i < l.length) := by simp
theorem le_l0 {α : Type} {k : Nat} : (([] : List α).length ≤ k) = True := by simp
theorem le_ls {α : Type} {a : α} {l : List α} {k : Nat} : ((a :: l).length ≤ k + 1) = (l.length ≤ k) := by simp
theorem eq_l0 {α : Type} : (([] : List α).length = 0) = True := by simp
theorem eq_ls {α : Type} {a : α} {l : List α} {k : Nat} : ((a :: l).length = k + 1) = (l.length = k) := by simp
theorem sm_l {α : Type} {l : List α} (h : l.length ≤ 1000000) : (small l.length = true) = True := by simp [small_of h]
theorem R_run2 {n : Nat} {b : SM} {ds : List D} {P : D → Prop} (h : Wp b (startS ds n) fun o => match o with | .rt d _ => P d | .nx _ => P .none | _ => False) : RsK (runF n b ds) P := R_run h
theorem RsK.eq {r : Rs} {d : D} (h : RsK r fun x => x = d) : r = .ok d := Rp1.eq h
end FW

/-! FwW: plain reasoning about the drawn numbers. -/
namespace FW
open PySem PySem.Spec L2
open PyProof.Rows hiding St
def RwK (r : Rw) (P : D → Int → List Int → Prop) : PropOf P := ∃ d k ns, r = .ok d k ns ∧ P d k ns
theorem RwK_ok {d : D} {k : Int} {ns : List Int} {P : D → Int → List Int → Prop} : RwK (.ok d k ns) P = P d k ns := propext ⟨fun ⟨_, _, _, e, p⟩ => (by cases e; exact p), fun p => ⟨d, k, ns, rfl, p⟩⟩
def DrK (o : Option Slot) (X : Prop) : PropOf X := match o with
  | some (.drw _ _ _) => X
  | _ => False
def WkK (o : Option Slot) (g : Addr → Int → List Int → List D → Rw) (ds : List D) (P : D → Addr → Int → List Int → Prop) : PropOf P := match o with
  | some (.drw a k ns) => RwK (g a k ns ds) fun d k' ns' => P d a k' ns'
  | _ => False
theorem DrK_d {a : Addr} {k : Int} {ns : List Int} {X : Prop} : DrK (some (.drw a k ns)) X = X := rfl
theorem WkK_d {a : Addr} {k : Int} {ns : List Int} {g : Addr → Int → List Int → List D → Rw} {ds : List D} {P : D → Addr → Int → List Int → Prop} : WkK (some (.drw a k ns)) g ds P = RwK (g a k ns ds) fun d k' ns' => P d a k' ns' := rfl
theorem X_W {i m : Nat} {g : Addr → Int → List Int → List D → Rw} {fa : EM (List D)} {S : List Slot} {PD : D → List Slot → Prop} : EpK (eCallW i m g fa) S PD = DrK (S[i]?) (EpK fa S fun ds S1 => AndK (ds.length + 1 = m) (WkK (S1[i]?) g ds fun d a k' ns' => PD d (S1.set i (.drw a k' ns')))) := by
  simp only [← Ep_K]
  cases e : S[i]? with
  | none => unfold Ep eCallW DrK; simp [e]
  | some s =>
    cases s with
    | drw a k ns =>
      rw [DrK_d]
      have h : Ep (eCallW i m g fa) S PD = Ep (eBind fa (fun ds S => match S[i]? with
    | some (.drw a k ns) => if ds.length + 1 = m then (match g a k ns ds with
      | .ok d k' ns' => .ok d (S.set i (.drw a k' ns'))
      | .bad => .bad) else .bad
    | _ => .bad)) S PD := by
        unfold Ep eCallW
        simp only [e] <;> rfl
      rw [h, Ep_bind]
      congr 1
      funext ds S1
      unfold Ep AndK WkK
      cases e1 : S1[i]? with
      | none => simp [e1]
      | some s1 =>
        cases s1 with
        | drw a1 k1 ns1 =>
          by_cases hm : ds.length + 1 = m
          · cases e2 : g a1 k1 ns1 ds with
            | ok d k2 ns2 =>
              simp only [e1, hm, if_true, e2, true_and]
              rw [RwK_ok]
              exact propext ⟨fun ⟨_, _, e, p⟩ => (by cases e; exact p), fun p => ⟨_, _, rfl, p⟩⟩
            | bad => simp [e1, hm, e2, RwK]
          · simp [e1, hm]
        | _ => simp [e1]
    | _ => unfold Ep eCallW DrK; simp [e]
theorem RwK_take {a : Addr} {k : Int} {ns : List Int} {n : Nat} {P : D → Int → List Int → Prop} (h : DrawOk ns) (hn : n < 2 ^ 200) (q : ∀ (r : Nat) (k' : Int) (ns' : List Int), DrawOk ns' → (1 ≤ n → r < n) → (n ≤ 1 → r = 0) → P (.int r) k' ns') : RwK (takeW a k ns [.int n]) P := by
  obtain ⟨r, k', ns', e, h1, h2, h3, h4⟩ := takeL_ok k h (m := n) (by omega)
  obtain ⟨r, rfl⟩ := Int.eq_ofNat_of_zero_le h2
  refine ⟨.int r, k', ns', ?_, q r k' ns' h1 (fun z => by have := h4 (by omega); omega) (fun z => by have := h3 (by omega); omega)⟩
  unfold takeW
  simp only [e]
theorem R_runW {n : Nat} {b : SM} {a : Addr} {k : Int} {ns : List Int} {ds : List D} {P : D → Int → List Int → Prop} (h : Wp b (.drw a k ns :: startS ds (n - 1)) fun o => ∃ d k' ns' S, o = .rt d (.drw a k' ns' :: S) ∧ P d k' ns') : RwK (runW n b a k ns ds) P := by
  obtain ⟨_, d, k', ns', S, e, p⟩ := h
  refine ⟨d, k', ns', ?_, p⟩
  unfold runW
  rw [e]
  unfold outW
  simp
/-! comprehensions that draw -/
inductive All2 (R : D → D → Prop) : List D → List D → Prop
  | nil : All2 R [] []
  | cons {d y : D} {ds ys : List D} : R d y → All2 R ds ys → All2 R (d :: ds) (y :: ys)
theorem All2.length {R : D → D → Prop} : ∀ {ds ys : List D}, All2 R ds ys → ys.length = ds.length
  | _, _, .nil => rfl
  | _, _, .cons _ h => by rw [List.length_cons, List.length_cons, h.length]
theorem set_comm {S : List Slot} {v w : Nat} {x y : Slot} (h : v ≠ w) : (S.set v x).set w y = (S.set w y).set v x := List.set_comm x y h
theorem compL_draw {v w : Nat} {e : EM D} {S : List Slot} {a : Addr} (R : D → D → Prop) (hvw : v ≠ w) (hv : v < S.length) : ∀ (ds : List D) (k : Int) (ns : List Int), DrawOk ns →
    (∀ d ∈ ds, ∀ k ns, DrawOk ns → Ep e ((S.set w (.drw a k ns)).set v (.dat d)) fun y S3 => R d y ∧ ∃ k' ns', DrawOk ns' ∧ S3 = (S.set w (.drw a k' ns')).set v (.dat d)) →
    ∃ ys k' ns', DrawOk ns' ∧ All2 R ds ys ∧ compL [v] (gN v) bYes e ds ((S.set w (.drw a k ns)).set v .un) = .ok ys ((S.set w (.drw a k' ns')).set v .un)
  | [], k, ns, hn, _ => ⟨[], k, ns, hn, .nil, rfl⟩
  | d :: ds, k, ns, hn, he => by
    obtain ⟨y, S3, e1, r, k1, ns1, hn1, rfl⟩ := he d (.head _) k ns hn
    obtain ⟨ys, k2, ns2, hn2, r2, e2⟩ := compL_draw R hvw hv ds k1 ns1 hn1 fun d' m => he d' (.tail _ m)
    refine ⟨y :: ys, k2, ns2, hn2, .cons r r2, ?_⟩
    unfold compL
    have eg : gN v d ((S.set w (.drw a k ns)).set v .un) = some ((S.set w (.drw a k ns)).set v (.dat d)) := by
      unfold gN
      rw [if_pos (by rw [List.length_set, List.length_set]; exact hv), List.set_set]
    have eb : ∀ S, bYes S = .ok true S := fun _ => rfl
    rw [eg]
    simp only [eb, e1, wipe1, List.set_set, e2]
theorem E_draws {v w : Nat} {src : EM (List D)} {e : EM D} {S : List Slot} {PL : List D → List Slot → Prop} {a : Addr} {k : Int} {ns : List Int} (ds : List D) (R : D → D → Prop) (hw : S[w]? = some (.drw a k ns)) (hn : DrawOk ns) (hvw : v ≠ w) (h0 : Ep src S fun ds' S1 => ds' = ds ∧ S1 = S) (hv : v < S.length) (pl : plainAt [v] S = true) (hs : ds.length ≤ 1000000)
    (he : ∀ d ∈ ds, ∀ k ns, DrawOk ns → Ep e ((S.set w (.drw a k ns)).set v (.dat d)) fun y S3 => R d y ∧ ∃ k' ns', DrawOk ns' ∧ S3 = (S.set w (.drw a k' ns')).set v (.dat d))
    (q : ∀ ys k' ns', DrawOk ns' → All2 R ds ys → PL ys (S.set w (.drw a k' ns'))) : Ep (eComp [v] src (gN v) bYes e) S PL := by
  obtain ⟨ds', S1, e1, rfl, rfl⟩ := h0
  obtain ⟨ys, k', ns', hn', r, e2⟩ := compL_draw (a := a) R hvw hv ds' k ns hn he
  refine ⟨ys, S1.set w (.drw a k' ns'), ?_, q ys k' ns' hn' r⟩
  have hsw : S1.set w (.drw a k ns) = S1 := by
    obtain ⟨hl, hg⟩ := List.getElem?_eq_some_iff.mp hw
    rw [← hg, List.set_getElem_self]
  have hsm : small ds'.length = true := small_of hs
  rw [hsw] at e2
  unfold eComp eBind
  rw [e1]
  simp only [pl, hsm, Bool.and_self, if_true, wipe1, e2]
  congr 1
  unfold restS
  rw [List.getElem?_eq_getElem hv]
  show ((S1.set w (.drw a k' ns')).set v .un).set v S1[v] = _
  rw [List.set_set]
  have hg : (S1.set w (.drw a k' ns'))[v]'(by rw [List.length_set]; exact hv) = S1[v] := List.getElem_set_ne (fun z => hvw z.symm) _
  conv => lhs; rw [← hg]
  exact List.set_getElem_self _
end FW

/-! FwX: two names set at once, each to data or to a list or dict of its own. -/
namespace FW
open PySem PySem.Spec L2
open PyProof.Rows hiding St
/-- a value as it comes, for a slot -/
def New (K : PySem.W.Frag) (c : Cfg) (v : V) (s : Slot) (c' : Cfg) : Option Addr → Prop
  | none => SlotOk K c s (some v) [] ∧ c' = c
  | some p => ∃ u, v = .ref p ∧ c.H p = none ∧ c' = c.tmp p u ∧ (∀ xs, u ≠ .tup xs) ∧ SlotOk K c' s (some v) [p]
/-- .. and later -/
def TK (K : PySem.W.Frag) (c : Cfg) (v : V) (s : Slot) : Option Addr → Prop
  | none => SlotOk K c s (some v) []
  | some p => ∃ u, v = .ref p ∧ p ∉ c.F ∧ c.Z p = none ∧ c.H p = some u ∧ (∀ xs, u ≠ .tup xs) ∧ SlotOk K c s (some v) [p]
theorem TK.step {K : PySem.W.Frag} {c c' : Cfg} {v : V} {s : Slot} {o : Option Addr} (t : TK K c v s o) (st : Stp c c') : TK K c' v s o := by
  cases o with
  | none => exact SlotOk.tr t st.z fun a m => nomatch m
  | some p =>
    obtain ⟨u, e, h1, h2, h3, h4, h5⟩ := t
    have hk := st.k p u h3 h1
    refine ⟨u, e, fun m => ?_, ?_, hk, h4, h5.tr st.z fun a m => ?_⟩
    · rcases st.f p m with m | m
      · exact h1 m
      · rw [h3] at m; cases m
    · cases q : c'.Z p with
      | none => rfl
      | some o =>
        exfalso
        rcases st.n p o q with m | m | m | ⟨xs, m⟩
        · rw [h2] at m; cases m
        · rw [h3] at m; cases m
        · exact h1 m
        · rw [h3] at m; cases m; exact h4 xs rfl
    · have : a = p := by simpa using m
      subst this
      rw [hk, h3]
theorem New.to {K : PySem.W.Frag} {S : List Slot} {σ : Sg} {c c' : Cfg} {v : V} {s : Slot} {o : Option Addr} (n : New K c v s c' o) (h : Holds K S σ c) : Stp c c' ∧ Holds K S σ c' ∧ TK K c' v s o ∧ ∀ p, o = some p → c.H p = none := by
  cases o with
  | none =>
    obtain ⟨n, rfl⟩ := n
    exact ⟨Stp.refl _, h, n, fun _ e => nomatch e⟩
  | some p =>
    obtain ⟨u, e, h1, rfl, h2, h3⟩ := n
    obtain ⟨st, h'⟩ := h.tmpS (o := u) h1
    exact ⟨st, h', ⟨u, e, h.nF h1, h.nf h1, upd_same, h2, h3⟩, fun q e => by cases e; exact h1⟩
/-- into its slot -/
theorem TK.put {K : PySem.W.Frag} {S : List Slot} {σ : Sg} {c : Cfg} {v : V} {s : Slot} {i : Nat} {o : Option Addr} (t : TK K c v s o) (h : Holds K S σ c) (hi : i < S.length) :
    ∃ F', (∀ b ∈ F', b ∈ c.F ∨ o = some b) ∧ Holds K (S.set i s) (σ.set i (some v)) ⟨c.Z, c.H, F'⟩ := by
  obtain ⟨A, Fi, B, x, e1, e2, _, up⟩ := h.l.at (List.getElem?_eq_getElem hi)
  have nd := h.nd
  rw [e1] at nd
  cases o with
  | none =>
    refine ⟨A ++ ([] ++ B), fun b m => .inl ?_, ⟨?_, ?_, fun a m => ?_, h.zh⟩⟩
    · rw [e1]
      simp at m ⊢
      rcases m with m | m <;> simp [m]
    · exact up ⟨c.Z, c.H, A ++ ([] ++ B)⟩ s (some v) [] (Same.refl _) (fun _ _ => rfl) t
    · show (A ++ ([] ++ B)).Nodup
      simp only [List.nodup_append, List.mem_append, List.mem_singleton, List.nodup_cons] at nd ⊢
      grind
    · have m' : a ∈ A ++ ([] ++ B) := m
      refine h.zf a ?_
      rw [e1]
      simp at m' ⊢
      rcases m' with m' | m' <;> simp [m']
  | some p =>
    obtain ⟨u, e, h1, h2, h3, h4, h5⟩ := t
    have hF := h1
    rw [e1] at hF
    simp only [List.mem_append, not_or] at hF
    refine ⟨A ++ ([p] ++ B), fun b m => ?_, ⟨?_, ?_, fun a m => ?_, h.zh⟩⟩
    · simp only [List.mem_append, List.mem_singleton] at m
      rcases m with m | m | m
      · exact .inl (by rw [e1]; simp [m])
      · subst m; exact .inr rfl
      · exact .inl (by rw [e1]; simp [m])
    · exact up ⟨c.Z, c.H, A ++ ([p] ++ B)⟩ s (some v) [p] (Same.refl _) (fun _ _ => rfl) h5
    · show (A ++ ([p] ++ B)).Nodup
      simp only [List.nodup_append, List.mem_append, List.mem_singleton, List.nodup_cons] at nd ⊢
      grind
    · have m' : a ∈ A ++ ([p] ++ B) := m
      simp only [List.mem_append, List.mem_singleton] at m'
      rcases m' with m' | m' | m'
      · exact h.zf a (by rw [e1]; simp [m'])
      · subst m'; exact h2
      · exact h.zf a (by rw [e1]; simp [m'])
section
variable {X : Cx} {W : WX} {pos : Pos}
def tK (G : Gx) (f : EM Slot) : TE := fun σ H Q => ∃ S Z F, Holds G.K S σ ⟨Z, H, F⟩ ∧ Go G σ ⟨Z, H, F⟩ (f S) (fun s _ c' => ∀ v c2 o, New G.K c' v s c2 o → Q v c2.H)
def DK (X : Cx) (W : WX) (e : Expr) (f : EM Slot) : Prop := PE X e (tK (gx X W) f)
def vD (f : EM D) : EM Slot := eBind f fun d => eRet (.dat d)
def vO (f : EM (List D)) : EM Slot := eBind f fun ds => eRet (.own ds)
def vM (t : Bool) (f : EM (List (D × D))) : EM Slot := eBind f fun es => eRet (.dic t es)
theorem dk_d {e : Expr} {f : EM D} (h : DE X W e f) : DK X W e (vD f) := by
  refine PE.wk h fun σ H Q q => ?_
  obtain ⟨S, Z, F, h, q⟩ := q
  refine ⟨S, Z, F, h, (Go.bind q).mono fun d S1 c1 s1 h1 q1 v rv => ?_⟩
  exact q1 c1 (Stp.refl _) h1 v c1 none ⟨⟨rfl, v, rfl, rv⟩, rfl⟩
theorem dk_o {e : Expr} {f : EM (List D)} (h : DF X W e f) : DK X W e (vO f) := by
  refine PE.wk h fun σ H Q q => ?_
  obtain ⟨S, Z, F, h, q⟩ := q
  refine ⟨S, Z, F, h, (Go.bind q).mono fun d S1 c1 s1 h1 q1 p vs hp rs => ?_⟩
  exact q1 c1 (Stp.refl _) h1 (.ref p) (c1.tmp p (.lst vs)) (some p) ⟨_, rfl, hp, rfl, (fun _ e => nomatch e), ⟨p, vs, rfl, rfl, upd_same, rs⟩⟩
theorem dk_m {t : Bool} {e : Expr} {f : EM (List (D × D))} (h : DM X W t e f) : DK X W e (vM t f) := by
  refine PE.wk h fun σ H Q q => ?_
  obtain ⟨S, Z, F, h, q⟩ := q
  refine ⟨S, Z, F, h, (Go.bind q).mono fun d S1 c1 s1 h1 q1 p u hp da => ?_⟩
  obtain ⟨u', e1, _, nt⟩ := da.obj
  cases e1
  refine q1 c1 (Stp.refl _) h1 (.ref p) (c1.tmp p u) (some p) ⟨_, rfl, hp, rfl, nt, ⟨p, rfl, rfl, ?_⟩⟩
  show DicAt X.K c1.Z (upd c1.H p u p) t d
  rw [upd_same]
  exact da
def sParK (i j : Nat) (f1 f2 : EM Slot) : SM := sOf f1 fun s1 S1 => sOf f2 (fun s2 S2 => if i < S2.length ∧ j < S2.length then .nx ((S2.set i s1).set j s2) else .bad) S1
theorem par_core {i j : Nat} {S2 : List Slot} {σ : Sg} {c1 c5 : Cfg} {v w : V} {s1 s2 : Slot} {o1 o2 : Option Addr} {Q : Ends} (ST : Stp c1 c5) (h5 : Holds X.K S2 σ c5) (t1 : TK X.K c5 v s1 o1) (t2 : TK X.K c5 w s2 o2)
    (dj : ∀ p, o1 = some p → o2 = some p → False) (w1 : ∀ p, o1 = some p → c1.H p = none) (w2 : ∀ p, o2 = some p → c1.H p = none) (q2 : GoS (gx X W) c1 Q (if i < S2.length ∧ j < S2.length then .nx ((S2.set i s1).set j s2) else .bad)) :
    Q.nx ((σ.set i (some v)).set j (some w)) c5.H := by
  split at q2
  rotate_left
  · exact q2.elim
  rename_i hl
  obtain ⟨F1, f1', h5⟩ := t1.put h5 hl.1
  have t2' : TK X.K ⟨c5.Z, c5.H, F1⟩ w s2 o2 := by
    cases o2 with
    | none => exact SlotOk.tr t2 (Same.refl _) fun _ _ => rfl
    | some p =>
      obtain ⟨u, e, g1, g2, g3, g4, g5⟩ := t2
      refine ⟨u, e, fun m => ?_, g2, g3, g4, g5.tr (Same.refl _) fun _ _ => rfl⟩
      rcases f1' p m with m | m
      · exact g1 m
      · exact dj p m rfl
  obtain ⟨F2, f2', h6⟩ := t2'.put h5 (by rw [List.length_set]; exact hl.2)
  refine q2 _ ⟨c5.Z, c5.H, F2⟩ ⟨ST.z, ST.k, ST.t, ST.n, fun b m => ?_⟩ h6
  rcases f2' b m with m | m
  · rcases f1' b m with m | m
    · exact ST.f b m
    · exact .inr (w1 b m)
  · exact .inr (w2 b m)
theorem par_dj {c c' c'' : Cfg} {v w : V} {s1 s2 : Slot} {o1 o2 : Option Addr} (t : TK X.K c v s1 o1) (w2 : ∀ p, o2 = some p → c.H p = none) : ∀ p, o1 = some p → o2 = some p → False := by
  intro p e1 e2
  subst e1
  obtain ⟨u, _, _, _, k6, _⟩ := t
  rw [w2 p e2] at k6
  cases k6
theorem ds_parK (i j : Nat) {x y : Str} {a b : Expr} {f1 f2 : EM Slot} {px py pt : Pos} {kt k2 pt2} (hc : X.calm = true) (hN : X.N.Nodup) (ha : DK X W a f1) (hb : DK X W b f2) (hij : i ≠ j) (hi : X.N[i]? = some x := by rfl) (hj : X.N[j]? = some y := by rfl)
    (hx : X.env.scope.names.lookup x = some .local := by rfl) (hy : X.env.scope.names.lookup y = some .local := by rfl)
    (hw : swappedStores [.Tuple [.Name x px, .Name y py] kt pt] (.Tuple [a, b] k2 pt2) X.env = pure (some [x, y]) := by rfl)
    (hs : swapsWithSole [.Tuple [.Name x px, .Name y py] kt pt] (.Tuple [a, b] k2 pt2) pos.line X.env = pure false := by rfl)
    (hsa : starEach (a :: [b]) X.env = (false, eval a X.env) :: starEach [b] X.env := by rfl) (hsb : starEach (b :: []) X.env = (false, eval b X.env) :: starEach [] X.env := by rfl) :
    DS X W (.Assign [.Tuple [.Name x px, .Name y py] kt pt] (.Tuple [a, b] k2 pt2) pos) (sParK i j f1 f2) := by
  refine PS.wk (ps_par hc hN hi hj hij hx hy (pa_cons ha (pa_cons hb pa_nil hsb) hsa) hw hs) fun Q σ H q => ?_
  obtain ⟨S, Z, F, h, q⟩ := q
  refine ⟨S, Z, F, h, Go.toS q fun s1 S1 c1 st1 h1 q1 v c2 o1 n1 => ?_⟩
  obtain ⟨st2, h2, t1, w1⟩ := n1.to h1
  refine ⟨S1, c2.Z, c2.F, h2, ?_⟩
  have q2 := q1
  unfold sOf at q2
  cases e2 : f2 S1 with
  | bad => rw [e2] at q2; exact q2.elim
  | ex e S2 =>
    rw [e2] at q2
    exact fun c' cls dx s' o x => q2 σ c' cls dx (st2.trans s') o x
  | ok s2 S2 =>
    rw [e2] at q2
    intro c3 st3 h3 w c4 o2 n2
    obtain ⟨st4, h4, t2, w2⟩ := n2.to h3
    have t3 := t1.step st3
    exact ⟨v, w, rfl, par_core ((st2.trans st3).trans st4) h4 (t3.step st4) t2 (par_dj (c' := c3) (c'' := c3) (w := w) (s2 := s2) t3 w2) w1 (fun p e => (st2.trans st3).was (w2 p e)) q2⟩
/-- .. by way of a pair -/
theorem ds_asgK (i j : Nat) {x y : Str} {a b : Expr} {f1 f2 : EM Slot} {px py pt : Pos} {kt k2 pt2} (hc : X.calm = true) (hN : X.N.Nodup) (ha : DK X W a f1) (hb : DK X W b f2) (hi : X.N[i]? = some x := by rfl) (hj : X.N[j]? = some y := by rfl)
    (hx : Loc X.env.scope x := by first | exact Or.inl rfl | exact Or.inr rfl) (hy : Loc X.env.scope y := by first | exact Or.inl rfl | exact Or.inr rfl)
    (hf : X.fn x = true ∨ X.env.scope.names.lookup x = some .local := by first | exact .inl rfl | exact .inr rfl) (hf2 : X.fn y = true ∨ X.env.scope.names.lookup y = some .local := by first | exact .inl rfl | exact .inr rfl)
    (hw : swappedStores [.Tuple [.Name x px, .Name y py] kt pt] (.Tuple [a, b] k2 pt2) X.env = pure none := by rfl)
    (hs : swapsWithSole [.Tuple [.Name x px, .Name y py] kt pt] (.Tuple [a, b] k2 pt2) pos.line X.env = pure false := by rfl)
    (h1 : (assignEach [.Tuple [.Name x px, .Name y py] kt pt] X.env).map (·.2) = [assign (.Tuple [.Name x px, .Name y py] kt pt) X.env] := by rfl)
    (hn : (assignEach [.Name x px, .Name y py] X.env).length = 2 := by rfl) (hst : (assignEach [.Name x px, .Name y py] X.env).findIdx? (·.1) = none := by rfl)
    (hp1 : (assignEach [.Name x px, .Name y py] X.env).map (·.2) = assign (.Name x px) X.env :: (assignEach [.Name y py] X.env).map (·.2) := by rfl) (hp2 : (assignEach [.Name y py] X.env).map (·.2) = assign (.Name y py) X.env :: (assignEach [] X.env).map (·.2) := by rfl)
    (hsa : starEach (a :: [b]) X.env = (false, eval a X.env) :: starEach [b] X.env := by rfl) (hsb : starEach (b :: []) X.env = (false, eval b X.env) :: starEach [] X.env := by rfl) :
    DS X W (.Assign [.Tuple [.Name x px, .Name y py] kt pt] (.Tuple [a, b] k2 pt2) pos) (sParK i j f1 f2) := by
  refine PS.wk (ps_asg (pe_tup (pa_cons ha (pa_cons hb pa_nil hsb) hsa)) (pg_tup hc (pgs_cons (pg_name hN hi hx hf) (pgs_cons (pg_name hN hj hy hf2) pgs_nil hp2) hp1) hn hst) hs hw h1) fun Q σ H q => ?_
  obtain ⟨S, Z, F, h, q⟩ := q
  refine ⟨S, Z, F, h, Go.toS q fun s1 S1 c1 st1 h1 q1 v c2 o1 n1 => ?_⟩
  obtain ⟨st2, h2, t1, w1⟩ := n1.to h1
  refine ⟨S1, c2.Z, c2.F, h2, ?_⟩
  have q2 := q1
  unfold sOf at q2
  cases e2 : f2 S1 with
  | bad => rw [e2] at q2; exact q2.elim
  | ex e S2 =>
    rw [e2] at q2
    exact fun c' cls dx s' o x => q2 σ c' cls dx (st2.trans s') o x
  | ok s2 S2 =>
    rw [e2] at q2
    intro c3 st3 h3 w c4 o2 n2
    obtain ⟨st4, h4, t2, w2⟩ := n2.to h3
    have t3 := t1.step st3
    refine ⟨show 2 ≤ sizeLine from by decide, fun r hr => ⟨r, [v, w], rfl, SqT.of upd_same, rfl, _, _, rfl, _, _, rfl, rfl, ?_⟩⟩
    obtain ⟨st5, h5⟩ := h4.tmpS (o := .tup [v, w]) hr
    exact par_core ((st2.trans st3).trans (st4.trans st5)) h5 ((t3.step st4).step st5) (t2.step st5) (par_dj (c' := c3) (c'' := c3) (w := w) (s2 := s2) t3 w2) w1 (fun p e => (st2.trans st3).was (w2 p e)) q2
end
/-! plain reasoning -/
section
variable {S : List Slot} {PS : Slot → List Slot → Prop} {Q : Out → Prop}
theorem X_vD {f : EM D} : EpK (vD f) S PS = EpK f S fun d S1 => PS (.dat d) S1 := by
  unfold vD
  simp only [← Ep_K, Ep_bind, Ep_ret]
theorem X_vO {f : EM (List D)} : EpK (vO f) S PS = EpK f S fun d S1 => PS (.own d) S1 := by
  unfold vO
  simp only [← Ep_K, Ep_bind, Ep_ret]
theorem X_vM {t : Bool} {f : EM (List (D × D))} : EpK (vM t f) S PS = EpK f S fun d S1 => PS (.dic t d) S1 := by
  unfold vM
  simp only [← Ep_K, Ep_bind, Ep_ret]
theorem Y_parK {i j : Nat} {f1 f2 : EM Slot} : WpK (sParK i j f1 f2) S Q = EpK f1 S fun s1 S1 => EpK f2 S1 fun s2 S2 => AndK (i < S2.length) (AndK (j < S2.length) (Q (.nx ((S2.set i s1).set j s2)))) := by
  simp only [← Ep_K, ← Wp_K]
  unfold sParK
  rw [Wp_of]
  congr 1
  funext s1 S1
  have h := Wp_of (m := f2) (k := fun s2 S2 => if i < S2.length ∧ j < S2.length then .nx ((S2.set i s1).set j s2) else .bad) (S := S1) (Q := Q)
  unfold Wp at h
  refine Eq.trans (show _ = _ from rfl) (h.trans ?_)
  congr 1
  funext s2 S2
  unfold AndK
  split
  · rename_i hl; simp [hl, okO]
  · rename_i hl
    rw [Classical.not_and_iff_not_or_not] at hl
    rcases hl with hl | hl <;> simp [hl, okO]
end
end FW

/-! FwY: typed data: values of Lean types as data, compared. -/
namespace FW
open PySem PySem.Spec L2
open PyProof.Rows hiding St
class En (α : Type) [DecidableEq α] where
  en : α → D
  nd : ∀ a, noDict (en a) = true
  dp : Nat
  sh : ∀ a, shal dp (en a) = true
  eqv : ∀ a b, PyData.eqv (en a) (en b) = decide (a = b)
structure Tp (α : Type) where
  l : List α
deriving DecidableEq
theorem shal_mono : ∀ (n : Nat) (d : D), shal n d = true → shal (n + 1) d = true
  | 0, d, h => by cases d <;> simp_all [shal]
  | n + 1, d, h => by
    cases d with
    | list xs =>
      have h' : xs.all (shal n) = true := h
      show xs.all (shal (n + 1)) = true
      rw [List.all_eq_true] at h' ⊢
      exact fun x m => shal_mono n x (h' x m)
    | tuple xs =>
      have h' : xs.all (shal n) = true := h
      show xs.all (shal (n + 1)) = true
      rw [List.all_eq_true] at h' ⊢
      exact fun x m => shal_mono n x (h' x m)
    | dict xs => simp [shal] at h
    | _ => rfl
theorem shal_le {n m : Nat} (h : n ≤ m) {d : D} (s : shal n d = true) : shal m d = true := by
  induction h with
  | refl => exact s
  | step _ ih => exact shal_mono _ _ ih
theorem noDictA_all : ∀ ds : List D, noDictA ds = ds.all noDict
  | [] => rfl
  | d :: ds => by rw [noDictA, List.all_cons, noDictA_all ds]
section
variable {α β : Type} [DecidableEq α] [DecidableEq β] [En α] [En β]
theorem eqvAll_en : ∀ xs ys : List α, PyData.eqvAll (xs.map En.en) (ys.map En.en) = decide (xs = ys)
  | [], [] => by simp only [List.map_nil, PyData.eqvAll, decide_true]
  | [], _ :: _ => by simp [PyData.eqvAll]
  | _ :: _, [] => by simp [PyData.eqvAll]
  | x :: xs, y :: ys => by
    rw [List.map_cons, List.map_cons, PyData.eqvAll, En.eqv x y, eqvAll_en xs ys, ← Bool.decide_and]
    exact decide_eq_decide.mpr (by rw [List.cons.injEq])
theorem nd_en (xs : List α) : noDictA (xs.map En.en) = true := by
  rw [noDictA_all, List.all_eq_true]
  intro d hd
  obtain ⟨a, _, rfl⟩ := List.mem_map.mp hd
  exact En.nd a
theorem sh_en (xs : List α) : (xs.map En.en).all (shal (En.dp α)) = true := by
  rw [List.all_eq_true]
  intro d hd
  obtain ⟨a, _, rfl⟩ := List.mem_map.mp hd
  exact En.sh a
end
theorem beq_dec {α : Type} [BEq α] [LawfulBEq α] [DecidableEq α] (a b : α) : (a == b) = decide (a = b) := by
  rw [Bool.eq_iff_iff, beq_iff_eq, decide_eq_true_eq]
instance : En Int := ⟨PyData.int, fun _ => rfl, 0, fun _ => rfl, fun a b => by simp only [PyData.eqv]; exact beq_dec a b⟩
instance : En Bool := ⟨PyData.bool, fun _ => rfl, 0, fun _ => rfl, fun a b => by simp only [PyData.eqv]; exact beq_dec a b⟩
instance : En Str := ⟨PyData.str, fun _ => rfl, 0, fun _ => rfl, fun a b => by simp only [PyData.eqv]; exact beq_dec a b⟩
instance : En Nat := ⟨nI, fun _ => rfl, 0, fun _ => rfl, fun a b => by
  unfold nI
  simp only [PyData.eqv]
  rw [beq_dec]
  exact decide_eq_decide.mpr ⟨Int.ofNat.inj, fun e => by rw [e]⟩⟩
instance {α : Type} [DecidableEq α] [En α] : En (List α) := ⟨fun xs => .list (xs.map En.en), fun xs => nd_en xs, En.dp α + 1, fun xs => sh_en xs, fun xs ys => by simp only [PyData.eqv]; exact eqvAll_en xs ys⟩
instance {α : Type} [DecidableEq α] [En α] : En (Tp α) := ⟨fun xs => .tuple (xs.l.map En.en), fun xs => nd_en xs.l, En.dp α + 1, fun xs => sh_en xs.l, fun xs ys => by
  simp only [PyData.eqv]
  rw [eqvAll_en]
  exact decide_eq_decide.mpr ⟨fun e => by cases xs; cases ys; exact congrArg Tp.mk e, fun e => by rw [e]⟩⟩
instance {α β : Type} [DecidableEq α] [DecidableEq β] [En α] [En β] : En (α × β) := ⟨fun p => .tuple [En.en p.1, En.en p.2], fun p => by simp [noDict, noDictA, En.nd], max (En.dp α) (En.dp β) + 1, fun p => by
  show [En.en p.1, En.en p.2].all (shal (max (En.dp α) (En.dp β))) = true
  simp only [List.all_cons, List.all_nil, Bool.and_true]
  rw [shal_le (Nat.le_max_left _ _) (En.sh p.1), shal_le (Nat.le_max_right _ _) (En.sh p.2)]
  rfl, fun p q => by
  simp only [PyData.eqv, PyData.eqvAll]
  rw [En.eqv, En.eqv, Bool.and_true, ← Bool.decide_and]
  exact decide_eq_decide.mpr ⟨fun e => Prod.ext e.1 e.2, fun e => by rw [e]; exact ⟨rfl, rfl⟩⟩⟩
section
variable {α : Type} [DecidableEq α] [En α]
theorem cmp_en (h : En.dp α ≤ 8 := by decide) (a b : α) : cmpOk (En.en a) (En.en b) = true := by
  unfold cmpOk shal2
  rw [En.nd, En.nd, shal_le h (En.sh a)]
  rfl
theorem eqD_en (h : En.dp α ≤ 8 := by decide) (a b : α) : eqD (En.en a) (En.en b) = some (.bool (decide (a = b))) := by
  unfold eqD
  rw [if_pos (cmp_en h a b), En.eqv]
theorem neD_en (h : En.dp α ≤ 8 := by decide) (a b : α) : neD (En.en a) (En.en b) = some (.bool (!decide (a = b))) := by
  unfold neD
  rw [if_pos (cmp_en h a b), En.eqv]
end
theorem eqD_lN (a b : List Nat) : eqD (.list (a.map nI)) (.list (b.map nI)) = some (.bool (decide (a = b))) := eqD_en (α := List Nat) (by decide) a b
theorem neD_lN (a b : List Nat) : neD (.list (a.map nI)) (.list (b.map nI)) = some (.bool (!decide (a = b))) := neD_en (α := List Nat) (by decide) a b
theorem eqD_tN (a b : List Nat) : eqD (.tuple (a.map nI)) (.tuple (b.map nI)) = some (.bool (decide (a = b))) := by
  have e := eqD_en (α := Tp Nat) (by decide) ⟨a⟩ ⟨b⟩
  refine e.trans ?_
  congr 2
  exact decide_eq_decide.mpr ⟨fun e => Tp.mk.inj e, fun e => by rw [e]⟩
theorem neD_tN (a b : List Nat) : neD (.tuple (a.map nI)) (.tuple (b.map nI)) = some (.bool (!decide (a = b))) := by
  have e := neD_en (α := Tp Nat) (by decide) ⟨a⟩ ⟨b⟩
  refine e.trans ?_
  congr 2
  rw [decide_eq_decide.mpr (show (⟨a⟩ : Tp Nat) = ⟨b⟩ ↔ a = b from ⟨fun e => Tp.mk.inj e, fun e => by rw [e]⟩)]
mutual
theorem eqv_self : ∀ d : D, noDict d = true → PyData.eqv d d = true
  | .none, _ => by simp only [PyData.eqv]
  | .bool b, _ => by simp only [PyData.eqv, beq_self_eq_true]
  | .int b, _ => by simp only [PyData.eqv, beq_self_eq_true]
  | .str b, _ => by simp only [PyData.eqv, beq_self_eq_true]
  | .list xs, h => by simp only [PyData.eqv]; exact eqvA_self xs h
  | .tuple xs, h => by simp only [PyData.eqv]; exact eqvA_self xs h
  | .dict _, h => nomatch h
theorem eqvA_self : ∀ ds : List D, noDictA ds = true → PyData.eqvAll ds ds = true
  | [], _ => by simp only [PyData.eqvAll]
  | d :: ds, h => by
    rw [noDictA, Bool.and_eq_true] at h
    simp only [PyData.eqvAll, eqv_self d h.1, eqvA_self ds h.2, Bool.and_self]
end
theorem eqD_self {d : D} (h : noDict d = true) (s : shal 8 d = true) : eqD d d = some (.bool true) := by
  unfold eqD
  rw [if_pos (by unfold cmpOk shal2; rw [h, s]; rfl), eqv_self d h]
theorem neD_self {d : D} (h : noDict d = true) (s : shal 8 d = true) : neD d d = some (.bool false) := by
  unfold neD
  rw [if_pos (by unfold cmpOk shal2; rw [h, s]; rfl), eqv_self d h]
  rfl
theorem neD_selfE {α : Type} [DecidableEq α] [En α] (h : En.dp α ≤ 8 := by decide) (a : α) : neD (En.en a) (En.en a) = some (.bool false) := by
  rw [neD_en h]
  simp
theorem en_nat (k : Nat) : En.en k = nI k := rfl
/-! kinds -/
def wholeB (lo hi : Int) : D → Bool
  | .int i => decide (lo ≤ i) && decide (i ≤ hi)
  | _ => false
theorem isi_mk {T : String} {d : D} {b : Bool} (h1 : notDict d = true) (h2 : kitB (tyName d) T = some b) : isiD T d = some (.bool b) := by
  unfold isiD
  rw [if_pos h1, h2]
  rfl
theorem kb_int_i : kitB "int" "int" = some true := by decide +kernel
theorem isi_int_i {i : Int} : isiD "int" (.int i) = some (.bool true) := isi_mk rfl kb_int_i
theorem kb_int_b : kitB "bool" "int" = some true := by decide +kernel
theorem isi_int_b {i : Bool} : isiD "int" (.bool i) = some (.bool true) := isi_mk rfl kb_int_b
theorem kb_int_n : kitB "NoneType" "int" = some false := by decide +kernel
theorem isi_int_n  : isiD "int" .none = some (.bool false) := isi_mk rfl kb_int_n
theorem kb_int_s : kitB "str" "int" = some false := by decide +kernel
theorem isi_int_s {x : Str} : isiD "int" (.str x) = some (.bool false) := isi_mk rfl kb_int_s
theorem kb_int_l : kitB "list" "int" = some false := by decide +kernel
theorem isi_int_l {x : List D} : isiD "int" (.list x) = some (.bool false) := isi_mk rfl kb_int_l
theorem kb_int_t : kitB "tuple" "int" = some false := by decide +kernel
theorem isi_int_t {x : List D} : isiD "int" (.tuple x) = some (.bool false) := isi_mk rfl kb_int_t
theorem kb_bool_i : kitB "int" "bool" = some false := by decide +kernel
theorem isi_bool_i {i : Int} : isiD "bool" (.int i) = some (.bool false) := isi_mk rfl kb_bool_i
theorem kb_bool_b : kitB "bool" "bool" = some true := by decide +kernel
theorem isi_bool_b {i : Bool} : isiD "bool" (.bool i) = some (.bool true) := isi_mk rfl kb_bool_b
theorem kb_bool_n : kitB "NoneType" "bool" = some false := by decide +kernel
theorem isi_bool_n  : isiD "bool" .none = some (.bool false) := isi_mk rfl kb_bool_n
theorem kb_bool_s : kitB "str" "bool" = some false := by decide +kernel
theorem isi_bool_s {x : Str} : isiD "bool" (.str x) = some (.bool false) := isi_mk rfl kb_bool_s
theorem kb_bool_l : kitB "list" "bool" = some false := by decide +kernel
theorem isi_bool_l {x : List D} : isiD "bool" (.list x) = some (.bool false) := isi_mk rfl kb_bool_l
theorem kb_bool_t : kitB "tuple" "bool" = some false := by decide +kernel
theorem isi_bool_t {x : List D} : isiD "bool" (.tuple x) = some (.bool false) := isi_mk rfl kb_bool_t
theorem kb_tup_i : kitB "int" "tuple" = some false := by decide +kernel
theorem isi_tup_i {i : Int} : isiD "tuple" (.int i) = some (.bool false) := isi_mk rfl kb_tup_i
theorem kb_tup_b : kitB "bool" "tuple" = some false := by decide +kernel
theorem isi_tup_b {i : Bool} : isiD "tuple" (.bool i) = some (.bool false) := isi_mk rfl kb_tup_b
theorem kb_tup_n : kitB "NoneType" "tuple" = some false := by decide +kernel
theorem isi_tup_n  : isiD "tuple" .none = some (.bool false) := isi_mk rfl kb_tup_n
theorem kb_tup_s : kitB "str" "tuple" = some false := by decide +kernel
theorem isi_tup_s {x : Str} : isiD "tuple" (.str x) = some (.bool false) := isi_mk rfl kb_tup_s
theorem kb_tup_l : kitB "list" "tuple" = some false := by decide +kernel
theorem isi_tup_l {x : List D} : isiD "tuple" (.list x) = some (.bool false) := isi_mk rfl kb_tup_l
theorem kb_tup_t : kitB "tuple" "tuple" = some true := by decide +kernel
theorem isi_tup_t {x : List D} : isiD "tuple" (.tuple x) = some (.bool true) := isi_mk rfl kb_tup_t
theorem kb_lst_i : kitB "int" "list" = some false := by decide +kernel
theorem isi_lst_i {i : Int} : isiD "list" (.int i) = some (.bool false) := isi_mk rfl kb_lst_i
theorem kb_lst_b : kitB "bool" "list" = some false := by decide +kernel
theorem isi_lst_b {i : Bool} : isiD "list" (.bool i) = some (.bool false) := isi_mk rfl kb_lst_b
theorem kb_lst_n : kitB "NoneType" "list" = some false := by decide +kernel
theorem isi_lst_n  : isiD "list" .none = some (.bool false) := isi_mk rfl kb_lst_n
theorem kb_lst_s : kitB "str" "list" = some false := by decide +kernel
theorem isi_lst_s {x : Str} : isiD "list" (.str x) = some (.bool false) := isi_mk rfl kb_lst_s
theorem kb_lst_l : kitB "list" "list" = some true := by decide +kernel
theorem isi_lst_l {x : List D} : isiD "list" (.list x) = some (.bool true) := isi_mk rfl kb_lst_l
theorem kb_lst_t : kitB "tuple" "list" = some false := by decide +kernel
theorem isi_lst_t {x : List D} : isiD "list" (.tuple x) = some (.bool false) := isi_mk rfl kb_lst_t
theorem kb_str_i : kitB "int" "str" = some false := by decide +kernel
theorem isi_str_i {i : Int} : isiD "str" (.int i) = some (.bool false) := isi_mk rfl kb_str_i
theorem kb_str_b : kitB "bool" "str" = some false := by decide +kernel
theorem isi_str_b {i : Bool} : isiD "str" (.bool i) = some (.bool false) := isi_mk rfl kb_str_b
theorem kb_str_n : kitB "NoneType" "str" = some false := by decide +kernel
theorem isi_str_n  : isiD "str" .none = some (.bool false) := isi_mk rfl kb_str_n
theorem kb_str_s : kitB "str" "str" = some true := by decide +kernel
theorem isi_str_s {x : Str} : isiD "str" (.str x) = some (.bool true) := isi_mk rfl kb_str_s
theorem kb_str_l : kitB "list" "str" = some false := by decide +kernel
theorem isi_str_l {x : List D} : isiD "str" (.list x) = some (.bool false) := isi_mk rfl kb_str_l
theorem kb_str_t : kitB "tuple" "str" = some false := by decide +kernel
theorem isi_str_t {x : List D} : isiD "str" (.tuple x) = some (.bool false) := isi_mk rfl kb_str_t
/-! small facts -/
theorem lenD_ln {xs : List Nat} : lenD [.list (xs.map nI)] = some (.int (xs.length : Nat)) := by rw [lenD_l, List.length_map]
theorem lenD_tn {xs : List Nat} : lenD [.tuple (xs.map nI)] = some (.int (xs.length : Nat)) := by rw [lenD_t, List.length_map]
theorem tupleD_l {ds : List D} : tupleD [.list ds] = some (.tuple ds) := rfl
theorem tupleD_t {ds : List D} : tupleD [.tuple ds] = some (.tuple ds) := rfl
theorem listD_l {ds : List D} : listD [.list ds] = some ds := rfl
theorem listD_t {ds : List D} : listD [.tuple ds] = some ds := rfl
theorem intD_i {i : Int} : intD [.int i] = some (.int i) := rfl
theorem walk_l {ds : List D} : walkA (.list ds) = some ds := rfl
theorem walk_t {ds : List D} : walkA (.tuple ds) = some ds := rfl
theorem sumD_map (ns : List Int) : sumD [.list (ns.map PyData.int)] = some (.int ns.sum) := by
  show (allI (ns.map PyData.int)).map _ = _
  rw [allI_map]
  rfl
theorem allI_nI (ns : List Nat) : allI (ns.map nI) = some (ns.map Int.ofNat) := by
  have e : ns.map nI = (ns.map Int.ofNat).map PyData.int := by rw [List.map_map]; rfl
  rw [e, allI_map]
theorem allD_map {α : Type} (xs : List α) (p : α → Bool) : allD [.list (xs.map fun x => .bool (p x))] = some (.bool (xs.all p)) := by
  have e : (xs.map fun x => PyData.bool (p x)) = (xs.map p).map PyData.bool := by rw [List.map_map]; rfl
  show (allB (xs.map fun x => PyData.bool (p x))).map _ = _
  rw [e, allB_map]
  simp
theorem anyD_map {α : Type} (xs : List α) (p : α → Bool) : anyD [.list (xs.map fun x => .bool (p x))] = some (.bool (xs.any p)) := by
  have e : (xs.map fun x => PyData.bool (p x)) = (xs.map p).map PyData.bool := by rw [List.map_map]; rfl
  show (allB (xs.map fun x => PyData.bool (p x))).map _ = _
  rw [e, allB_map]
  simp
theorem lr1_ok {n : Nat} (h : n ≤ 1000000) : lr1 (.int (n : Nat)) = some ((List.range n).map nI) := by
  have e : lr1 (.int (n : Nat)) = (if rgOk 0 n then some (intsD 0 ((n : Int) - 0).toNat) else none) := rfl
  have b : rgOk 0 (n : Int) = true := by
    unfold rgOk
    simp
    omega
  rw [e, if_pos b]
  unfold intsD
  simp
  exact fun _ _ => rfl
theorem lr2_ok {i j : Nat} (hi : i ≤ 1000000) (h : j ≤ 1000000) : lr2 (.int (i : Nat)) (.int (j : Nat)) = some ((List.range (j - i)).map fun k => nI (i + k)) := by
  have e : lr2 (.int (i : Nat)) (.int (j : Nat)) = (if rgOk i j then some (intsD i ((j : Int) - i).toNat) else none) := rfl
  have b : rgOk (i : Int) (j : Int) = true := by
    unfold rgOk
    simp
    omega
  rw [e, if_pos b]
  unfold intsD
  have : ((j : Int) - i).toNat = j - i := by omega
  rw [this]
  congr 1
theorem list_range {n : Nat} : (List.range n).map (fun i => PyData.int (i : Nat)) = (List.range n).map nI := rfl
/-! draws -/
theorem RwK_takeW {a : Addr} {k : Int} {ns : List Int} {n : Int} {P : D → Int → List Int → Prop} (h : DrawOk ns) (hn : n < 2 ^ 200) (q : ∀ (r : Nat) (k' : Int) (ns' : List Int), DrawOk ns' → (1 ≤ n → (r : Int) < n) → (n ≤ 1 → r = 0) → P (.int r) k' ns') : RwK (takeW a k ns [.int n]) P := by
  obtain ⟨r, k', ns', e, h1, h2, h3, h4⟩ := takeL_ok k h (m := n) hn
  obtain ⟨r, rfl⟩ := Int.eq_ofNat_of_zero_le h2
  refine ⟨.int r, k', ns', ?_, q r k' ns' h1 (fun z => h4 z) (fun z => by have := h3 (by omega); omega)⟩
  unfold takeW
  simp only [e]
end FW

/-! FwZ: loops and comprehensions over typed items; slots that nobody looks at again. -/
namespace FW
open PySem PySem.Spec L2
open PyProof.Rows hiding St
/-- a slot that nobody looks at again -/
def gv : Option D → Slot
  | none => .un
  | some d => .dat d
theorem plain_gv {o : Option D} : plainSlot (gv o) = true := by cases o <;> rfl
theorem comp_mapG {α : Type} (enc : α → D) {own : List Nat} {g : Tg} {t : EM Bool} {e : EM D} (base : List Slot) (p : α → Bool) (f : α → D) : ∀ (xs : List α), (∀ x ∈ xs, ∃ S1, g (enc x) base = some S1 ∧ wipeS own S1 = base ∧ Ep t S1 fun b S2 => b = p x ∧ S2 = S1 ∧ (b = true → Ep e S1 fun y S3 => y = f x ∧ S3 = S1)) →
    compL own g t e (xs.map enc) base = .ok ((xs.filter p).map f) base
  | [], _ => rfl
  | x :: xs, h => by
    obtain ⟨S1, e1, e3, b, S2, e2, rfl, rfl, e4⟩ := h x List.mem_cons_self
    have ih := comp_mapG enc base p f xs fun d' m => h d' (List.mem_cons_of_mem _ m)
    rw [List.map_cons]
    unfold compL
    rw [e1]
    simp only
    rw [e2]
    cases hp : p x with
    | true =>
      obtain ⟨y, S3, e5, rfl, rfl⟩ := e4 hp
      simp only
      rw [e5]
      simp only
      rw [e3, ih, List.filter_cons_of_pos hp]
      rfl
    | false =>
      simp only
      rw [e3, ih, List.filter_cons_of_neg (by rw [hp]; simp)]
section
variable {α : Type} {S : List Slot} {PL : List D → List Slot → Prop} {Q : Out → Prop}
/-- [e for v in xs if t] -/
theorem E_selG (enc : α → D) {v : Nat} {src : EM (List D)} {t : EM Bool} {e : EM D} (xs : List α) (p : α → Bool) (f : α → D) (h0 : Ep src S fun ds' S1 => ds' = xs.map enc ∧ S1 = S) (hv : v < S.length) (pl : plainAt [v] S = true) (hs : xs.length ≤ 1000000)
    (ht : ∀ x ∈ xs, Ep t (S.set v (.dat (enc x))) fun b S3 => b = p x ∧ S3 = S.set v (.dat (enc x))) (he : ∀ x ∈ xs, p x = true → Ep e (S.set v (.dat (enc x))) fun y S3 => y = f x ∧ S3 = S.set v (.dat (enc x))) (q : PL ((xs.filter p).map f) S) : Ep (eComp [v] src (gN v) t e) S PL := by
  obtain ⟨ds, S1, e1, rfl, rfl⟩ := h0
  refine ⟨_, S1, ?_, q⟩
  unfold eComp eBind
  rw [e1]
  have hsm : small (xs.map enc).length = true := small_of (by rw [List.length_map]; exact hs)
  simp only [pl, hsm, Bool.and_self, if_true]
  rw [comp_mapG enc (wipeS [v] S1) p f xs fun x hx => ⟨S1.set v (.dat (enc x)), ?_, ?_, ?_⟩]
  · simp only [wipe1, rest1 hv]
  · rw [wipe1]
    unfold gN
    rw [if_pos (by rw [List.length_set]; exact hv), List.set_set]
  · rw [wipe1, wipe1, List.set_set]
  · refine (ht x hx).mono fun b S3 h => ?_
    obtain ⟨rfl, rfl⟩ := h
    exact ⟨rfl, rfl, fun hb => he x hx hb⟩
/-- [e for v in xs] -/
theorem E_mapG (enc : α → D) {v : Nat} {src : EM (List D)} {e : EM D} (xs : List α) (f : α → D) (h0 : Ep src S fun ds' S1 => ds' = xs.map enc ∧ S1 = S) (hv : v < S.length) (pl : plainAt [v] S = true) (hs : xs.length ≤ 1000000)
    (he : ∀ x ∈ xs, Ep e (S.set v (.dat (enc x))) fun y S3 => y = f x ∧ S3 = S.set v (.dat (enc x))) (q : PL (xs.map f) S) : Ep (eComp [v] src (gN v) bYes e) S PL := by
  refine E_selG enc xs (fun _ => true) f h0 hv pl hs (fun d _ => ?_) (fun d hd _ => he d hd) ?_
  · rw [Ep_yes]
    exact ⟨rfl, rfl⟩
  · rw [List.filter_eq_self.mpr fun _ _ => rfl]
    exact q
/-! loops -/
theorem for_E {β γ : Type} (enc : α → D) {g : Tg} {body : SM} (st : β → γ → List Slot) (step : β → α → β) (I : Nat → β → Prop) (xs0 : List α) (h : ∀ i x, xs0[i]? = some x → ∀ s c, I i s → I (i + 1) (step s x) ∧ ∃ S1, g (enc x) (st s c) = some S1 ∧ Wp body S1 fun o => ∃ c', o = .nx (st (step s x) c') ∨ o = .ct (st (step s x) c')) :
    ∀ (xs : List α) (i : Nat) (s : β) (c : γ), xs = xs0.drop i → I i s → ∃ c', forL g body (xs.map enc) (st s c) = .nx (st (xs.foldl step s) c') ∧ I (i + xs.length) (xs.foldl step s)
  | [], i, s, c, _, hs => ⟨c, rfl, hs⟩
  | x :: xs, i, s, c, ed, hs => by
    have e0 : xs0[i]? = some x := by
      have := congrArg List.head? ed
      simpa [List.head?_drop] using this.symm
    have e3 : xs = xs0.drop (i + 1) := by
      have := congrArg List.tail ed
      simpa [List.tail_drop] using this
    obtain ⟨h1, S1, e1, e2⟩ := h i x e0 s c hs
    rw [List.map_cons]
    unfold forL
    rw [e1]
    obtain ⟨_, c1, e2⟩ := e2
    obtain ⟨c2, ih, hi⟩ := for_E enc st step I xs0 h xs (i + 1) (step s x) c1 e3 h1
    rw [show i + 1 + xs.length = i + (x :: xs).length by simp; omega] at hi
    refine ⟨c2, ?_, hi⟩
    rcases e2 with e2 | e2
    · simp only [e2]
      exact ih
    · simp only [e2]
      exact ih
/-- a loop over typed items, with slots that nobody looks at -/
theorem W_forE {β γ : Type} (enc : α → D) {g : Tg} {body : SM} {xs : List α} (st : β → γ → List Slot) (step : β → α → β) (I : Nat → β → Prop) (s : β) (c : γ) (hs : I 0 s)
    (h : ∀ i x, xs[i]? = some x → ∀ s c, I i s → I (i + 1) (step s x) ∧ ∃ S1, g (enc x) (st s c) = some S1 ∧ Wp body S1 fun o => ∃ c', o = .nx (st (step s x) c') ∨ o = .ct (st (step s x) c'))
    (q : ∀ c', I xs.length (xs.foldl step s) → Q (.nx (st (xs.foldl step s) c'))) : Wp (fun S => forL g body (xs.map enc) S) (st s c) Q := by
  obtain ⟨c', e, i⟩ := for_E enc st step I xs h xs 0 s c rfl hs
  rw [Nat.zero_add] at i
  unfold Wp
  simp only [e]
  exact ⟨rfl, q c' i⟩
/-- a loop whose turns leave what stands there as it is -/
theorem W_forC {γ : Type} (enc : α → D) {g : Tg} {body : SM} {xs : List α} (st : γ → List Slot) (c : γ)
    (h : ∀ x ∈ xs, ∀ c, ∃ S1, g (enc x) (st c) = some S1 ∧ Wp body S1 fun o => ∃ c', o = .nx (st c') ∨ o = .ct (st c')) (q : ∀ c', Q (.nx (st c'))) : Wp (fun S => forL g body (xs.map enc) S) (st c) Q :=
  W_forE (β := Unit) enc (fun _ c => st c) (fun _ _ => ()) (fun _ _ => True) () c trivial (fun i x hx _ c _ => ⟨trivial, h x (List.mem_of_getElem? hx) c⟩) (fun c' _ => q c')
/-- a loop that may give back something: the state before the item at which it does -/
theorem for_R {β γ : Type} (enc : α → D) {g : Tg} {body : SM} (st : β → γ → List Slot) (step : β → α → β) (stop : β → α → Bool) (ret : β → α → D) (I : Nat → β → Prop) (xs0 : List α) (h : ∀ i x, xs0[i]? = some x → ∀ s c, I i s → ∃ S1, g (enc x) (st s c) = some S1 ∧
      ((stop s x = false ∧ I (i + 1) (step s x) ∧ Wp body S1 fun o => ∃ c', o = .nx (st (step s x) c') ∨ o = .ct (st (step s x) c')) ∨ (stop s x = true ∧ Wp body S1 fun o => ∃ S', o = .rt (ret s x) S'))) :
    ∀ (xs : List α) (i : Nat) (s : β) (c : γ), xs = xs0.drop i → I i s → (∃ c', forL g body (xs.map enc) (st s c) = .nx (st (xs.foldl step s) c') ∧ I (i + xs.length) (xs.foldl step s) ∧ ∀ j x, xs[j]? = some x → stop ((xs.take j).foldl step s) x = false) ∨
      ∃ j x S', xs[j]? = some x ∧ (∀ j' x', j' < j → xs[j']? = some x' → stop ((xs.take j').foldl step s) x' = false) ∧ stop ((xs.take j).foldl step s) x = true ∧ I (i + j) ((xs.take j).foldl step s) ∧ forL g body (xs.map enc) (st s c) = .rt (ret ((xs.take j).foldl step s) x) S'
  | [], i, s, c, _, hs => .inl ⟨c, rfl, hs, fun j x hx => by simp at hx⟩
  | x :: xs, i, s, c, ed, hs => by
    have e0 : xs0[i]? = some x := by
      have := congrArg List.head? ed
      simpa [List.head?_drop] using this.symm
    have e3 : xs = xs0.drop (i + 1) := by
      have := congrArg List.tail ed
      simpa [List.tail_drop] using this
    obtain ⟨S1, e1, h2⟩ := h i x e0 s c hs
    rw [List.map_cons]
    unfold forL
    rw [e1]
    rcases h2 with ⟨hs1, h1, _, c1, e2⟩ | ⟨hs1, _, S', e2⟩
    · rcases for_R enc st step stop ret I xs0 h xs (i + 1) (step s x) c1 e3 h1 with ⟨c2, ih, hi, hall⟩ | ⟨j, y, S', hj, hall, hst, hI, ih⟩
      · refine .inl ⟨c2, ?_, ?_, fun j y hy => ?_⟩
        · rcases e2 with e2 | e2
          · simp only [e2]
            exact ih
          · simp only [e2]
            exact ih
        · rw [show i + (x :: xs).length = i + 1 + xs.length by simp; omega]
          exact hi
        · cases j with
          | zero =>
            simp at hy
            subst hy
            exact hs1
          | succ j => exact hall j y (by simpa using hy)
      · refine .inr ⟨j + 1, y, S', by simpa using hj, fun j' y' hj' hy' => ?_, hst, ?_, ?_⟩
        · cases j' with
          | zero =>
            simp at hy'
            subst hy'
            exact hs1
          | succ j' => exact hall j' y' (by omega) (by simpa using hy')
        · rw [show i + (j + 1) = i + 1 + j by omega]
          exact hI
        · rcases e2 with e2 | e2
          · simp only [e2]
            exact ih
          · simp only [e2]
            exact ih
    · exact .inr ⟨0, x, S', rfl, fun j' _ hj' => by omega, hs1, hs, by simp only [e2]; rfl⟩
theorem W_forR {β γ : Type} (enc : α → D) {g : Tg} {body : SM} {xs : List α} (st : β → γ → List Slot) (step : β → α → β) (stop : β → α → Bool) (ret : β → α → D) (I : Nat → β → Prop) (s : β) (c : γ) (hs : I 0 s) (h : ∀ i x, xs[i]? = some x → ∀ s c, I i s → ∃ S1, g (enc x) (st s c) = some S1 ∧
      ((stop s x = false ∧ I (i + 1) (step s x) ∧ Wp body S1 fun o => ∃ c', o = .nx (st (step s x) c') ∨ o = .ct (st (step s x) c')) ∨ (stop s x = true ∧ Wp body S1 fun o => ∃ S', o = .rt (ret s x) S')))
    (q1 : ∀ c', I xs.length (xs.foldl step s) → (∀ j x, xs[j]? = some x → stop ((xs.take j).foldl step s) x = false) → Q (.nx (st (xs.foldl step s) c')))
    (q2 : ∀ j x S', xs[j]? = some x → (∀ j' x', j' < j → xs[j']? = some x' → stop ((xs.take j').foldl step s) x' = false) → stop ((xs.take j).foldl step s) x = true → I j ((xs.take j).foldl step s) → Q (.rt (ret ((xs.take j).foldl step s) x) S')) : Wp (fun S => forL g body (xs.map enc) S) (st s c) Q := by
  unfold Wp
  rcases for_R enc st step stop ret I xs h xs 0 s c rfl hs with ⟨c2, ih, hi, hall⟩ | ⟨j, y, S', hj, hall, hst, hI, ih⟩
  · simp only [ih]
    rw [Nat.zero_add] at hi
    exact ⟨rfl, q1 c2 hi hall⟩
  · simp only [ih]
    rw [Nat.zero_add] at hI
    exact ⟨rfl, q2 j y S' hj hall hst hI⟩
/-- the plain case: no state is carried, the first item that is bad makes it give back the same -/
theorem W_forT {γ : Type} (enc : α → D) {g : Tg} {body : SM} {xs : List α} (st : γ → List Slot) (stop : α → Bool) (d : D) (c : γ) (h : ∀ x ∈ xs, ∀ c, ∃ S1, g (enc x) (st c) = some S1 ∧
      Wp body S1 fun o => (stop x = false ∧ ∃ c', o = .nx (st c') ∨ o = .ct (st c')) ∨ (stop x = true ∧ ∃ S', o = .rt d S'))
    (q1 : ∀ c', (∀ x ∈ xs, stop x = false) → Q (.nx (st c'))) (q2 : ∀ S', (∃ x ∈ xs, stop x = true) → Q (.rt d S')) : Wp (fun S => forL g body (xs.map enc) S) (st c) Q := by
  refine W_forR (β := Unit) enc (fun _ c => st c) (fun _ _ => ()) (fun _ x => stop x) (fun _ _ => d) (fun _ _ => True) () c trivial (fun i x hx _ c _ => ?_) (fun c' _ hall => q1 c' fun x hx => ?_) (fun j x S' hx _ hst _ => q2 S' ⟨x, List.mem_of_getElem? hx, hst⟩)
  · obtain ⟨S1, e1, e2, e3⟩ := h x (List.mem_of_getElem? hx) c
    refine ⟨S1, e1, ?_⟩
    rcases e3 with ⟨hs, e3⟩ | ⟨hs, e3⟩
    · exact .inl ⟨hs, trivial, e2, e3⟩
    · exact .inr ⟨hs, e2, e3⟩
  · obtain ⟨i, hi⟩ := List.mem_iff_getElem?.mp hx
    exact hall i x hi
/-! draws -/
theorem All2.nats {m : Nat} : ∀ {ds ys : List D}, All2 (fun _ y => ∃ r : Nat, y = .int r ∧ r < m) ds ys → ∃ xs : List Nat, ys = xs.map nI ∧ xs.length = ds.length ∧ ∀ x ∈ xs, x < m
  | _, _, .nil => ⟨[], rfl, rfl, fun _ h => nomatch h⟩
  | _, _, .cons h t => by
    obtain ⟨r, rfl, hr⟩ := h
    obtain ⟨xs, rfl, hl, hx⟩ := All2.nats t
    exact ⟨r :: xs, rfl, by simp [hl], fun x hm => (List.mem_cons.mp hm).elim (fun e => e ▸ hr) (hx x)⟩
/-- .. of anything typed -/
theorem All2.typed {α : Type} (enc : α → D) (p : α → Prop) : ∀ {ds ys : List D}, All2 (fun _ y => ∃ r : α, y = enc r ∧ p r) ds ys → ∃ xs : List α, ys = xs.map enc ∧ xs.length = ds.length ∧ ∀ x ∈ xs, p x
  | _, _, .nil => ⟨[], rfl, rfl, fun _ h => nomatch h⟩
  | _, _, .cons h t => by
    obtain ⟨r, rfl, hr⟩ := h
    obtain ⟨xs, rfl, hl, hx⟩ := All2.typed enc p t
    exact ⟨r :: xs, rfl, by simp [hl], fun x hm => (List.mem_cons.mp hm).elim (fun e => e ▸ hr) (hx x)⟩
/-- tuple([draw for v in range(n)]) -/
theorem E_drawN {v w : Nat} {src : EM (List D)} {e : EM D} {a : Addr} {k : Int} {ns : List Int} (n m : Nat) (hw : S[w]? = some (.drw a k ns)) (hn : DrawOk ns) (hvw : v ≠ w) (h0 : Ep src S fun ds' S1 => ds' = (List.range n).map nI ∧ S1 = S) (hv : v < S.length) (pl : plainAt [v] S = true) (hs : n ≤ 1000000)
    (he : ∀ i < n, ∀ k ns, DrawOk ns → Ep e ((S.set w (.drw a k ns)).set v (.dat (.int i))) fun y S3 => (∃ r : Nat, y = .int r ∧ r < m) ∧ ∃ k' ns', DrawOk ns' ∧ S3 = (S.set w (.drw a k' ns')).set v (.dat (.int i)))
    (q : ∀ (xs : List Nat) k' ns', DrawOk ns' → xs.length = n → (∀ x ∈ xs, x < m) → PL (xs.map nI) (S.set w (.drw a k' ns'))) : Ep (eComp [v] src (gN v) bYes e) S PL := by
  refine E_draws ((List.range n).map nI) (fun _ y => ∃ r : Nat, y = .int r ∧ r < m) hw hn hvw h0 hv pl (by simpa using hs) (fun d hd k ns hn => ?_) fun ys k' ns' hn' h2 => ?_
  · obtain ⟨i, hi, rfl⟩ := List.mem_map.mp hd
    exact he i (List.mem_range.mp hi) k ns hn
  · obtain ⟨xs, rfl, hl, hx⟩ := h2.nats
    exact q xs k' ns' hn' (by simpa using hl) hx
/-- [draw for v in range(n)] of anything typed -/
theorem E_drawG {v w : Nat} {src : EM (List D)} {e : EM D} {a : Addr} {k : Int} {ns : List Int} (enc : α → D) (p : α → Prop) (n : Nat) (hw : S[w]? = some (.drw a k ns)) (hn : DrawOk ns) (hvw : v ≠ w) (h0 : Ep src S fun ds' S1 => ds' = (List.range n).map nI ∧ S1 = S) (hv : v < S.length) (pl : plainAt [v] S = true) (hs : n ≤ 1000000)
    (he : ∀ i < n, ∀ k ns, DrawOk ns → Ep e ((S.set w (.drw a k ns)).set v (.dat (.int i))) fun y S3 => (∃ r : α, y = enc r ∧ p r) ∧ ∃ k' ns', DrawOk ns' ∧ S3 = (S.set w (.drw a k' ns')).set v (.dat (.int i)))
    (q : ∀ (xs : List α) k' ns', DrawOk ns' → xs.length = n → (∀ x ∈ xs, p x) → PL (xs.map enc) (S.set w (.drw a k' ns'))) : Ep (eComp [v] src (gN v) bYes e) S PL := by
  refine E_draws ((List.range n).map nI) (fun _ y => ∃ r : α, y = enc r ∧ p r) hw hn hvw h0 hv pl (by simpa using hs) (fun d hd k ns hn => ?_) fun ys k' ns' hn' h2 => ?_
  · obtain ⟨i, hi, rfl⟩ := List.mem_map.mp hd
    exact he i (List.mem_range.mp hi) k ns hn
  · obtain ⟨xs, rfl, hl, hx⟩ := All2.typed enc p h2
    exact q xs k' ns' hn' (by simpa using hl) hx
end
end FW

/-! FwZb: more of the same: displays of dicts, stores. -/
namespace FW
open PySem PySem.Spec L2
open PyProof.Rows hiding St
section
variable {α : Type} {S : List Slot} {PD : D → List Slot → Prop} {PL : List D → List Slot → Prop} {PM : List (D × D) → List Slot → Prop} {Q : Out → Prop}
theorem X_fzM {t : Bool} {f : EM (List (D × D))} : EpK (eFzM t f) S PD = EpK f S fun es S1 => PD (dictD t es) S1 := by
  unfold eFzM
  simp only [← Ep_K, Ep_bind, Ep_ret]
theorem X_prn : EpK (ePairs []) S PM = PM [] S := Ep_ret []
theorem X_prc {fk fv : EM D} {r : List (EM D × EM D)} : EpK (ePairs ((fk, fv) :: r)) S PM = EpK fk S fun k S1 => EpK fv S1 fun v S2 => EpK (ePairs r) S2 fun es S3 => PM ((k, v) :: es) S3 := by
  have e : ePairs ((fk, fv) :: r) = eBind fk fun k => eBind fv fun v => eBind (ePairs r) fun es => eRet ((k, v) :: es) := rfl
  rw [e]
  simp only [← Ep_K, Ep_bind, Ep_ret]
theorem X_disp {t : Bool} {fs : List (EM D × EM D)} : EpK (eDisp t fs) S PM = EpK (ePairs fs) S fun es S1 => AndK (es.length ≤ 15) (OpK (esPuts t [] es) fun r => PM r S1) := by
  unfold eDisp
  simp only [← Ep_K, Ep_bind, Ep_ite, Ep_opt, Ep_bad]
  congr 1
  funext es S1
  unfold AndK OpK
  split
  · rename_i h; simp [h]
  · rename_i h; simp [h]
end
theorem W_forD {γ : Type} {g : Tg} {body : SM} {ds : List D} {Q : Out → Prop} (st : γ → List Slot) (c : γ) (h : ∀ d ∈ ds, ∀ c, ∃ S1, g d (st c) = some S1 ∧ Wp body S1 fun o => ∃ c', o = .nx (st c') ∨ o = .ct (st c')) (q : ∀ c', Q (.nx (st c'))) : Wp (fun S => forL g body ds S) (st c) Q := by
  have e := W_forC (fun d : D => d) (g := g) (body := body) (xs := ds) (Q := Q) st c h q
  rw [List.map_id'] at e
  exact e
theorem Ep_val {α : Type} {m : EM α} {S : List Slot} {P : α → List Slot → Prop} (v : α) (h : Ep m S fun r S1 => r = v ∧ S1 = S) (q : P v S) : EpK m S P := by
  obtain ⟨a, S1, e, rfl, rfl⟩ := h
  exact ⟨a, S1, e, q⟩
theorem ln_p {α : Type} {l : List α} {k : Nat} : (l.length + 1 = k + 1) = (l.length = k) := by simp
theorem setAt_i {row : List Int} {p : Nat} {v : Int} (h : p < row.length) : setAtD (.own (row.map PyData.int)) (.int p) (.int v) = some (.own ((row.set p v).map PyData.int)) := by
  have e : setAtD (.own (row.map PyData.int)) (.int p) (.int v) = (ixN (row.map PyData.int).length p).map fun j => .own ((row.map PyData.int).set j (.int v)) := rfl
  rw [e]
  unfold ixN
  rw [if_pos (by omega), if_pos (by rw [List.length_map]; omega)]
  simp only [Option.map_some, Int.toNat_natCast, List.map_set]
theorem setAt_g {α : Type} (enc : α → D) {row : List α} {p : Nat} {v : α} (h : p < row.length) : setAtD (.own (row.map enc)) (.int p) (enc v) = some (.own ((row.set p v).map enc)) := by
  have e : setAtD (.own (row.map enc)) (.int p) (enc v) = (ixN (row.map enc).length p).map fun j => .own ((row.map enc).set j (enc v)) := rfl
  rw [e]
  unfold ixN
  rw [if_pos (by omega), if_pos (by rw [List.length_map]; omega)]
  simp only [Option.map_some, Int.toNat_natCast, List.map_set]
theorem ix_i {row : List Int} {p : Nat} (h : p < row.length) : ixD (.list (row.map PyData.int)) (.int p) = some (.int (row.getD p 0)) := by
  refine ixD_l ?_
  rw [List.getElem?_map, List.getElem?_eq_getElem h, List.getD_eq_getElem?_getD, List.getElem?_eq_getElem h]
  rfl
theorem fold_app {α β : Type} (f : α → β) : ∀ (xs : List α) (a : List β), xs.foldl (fun s x => s ++ [f x]) a = a ++ xs.map f
  | [], a => by simp
  | x :: xs, a => by rw [List.foldl_cons, fold_app f xs]; simp
theorem fold_app2 {α β γ : Type} (f : α → β) (g : α → γ) : ∀ (xs : List α) (a : List β) (b : List γ), xs.foldl (fun (s : List β × List γ) x => (s.1 ++ [f x], s.2 ++ [g x])) (a, b) = (a ++ xs.map f, b ++ xs.map g)
  | [], a, b => by simp
  | x :: xs, a, b => by rw [List.foldl_cons, fold_app2 f g xs]; simp
theorem app_map {α : Type} (enc : α → D) {xs : List α} {x : α} (h : xs.length < 1000000) : appD (xs.map enc) [enc x] = some (.none, (xs ++ [x]).map enc) := by
  rw [appD_one (size_of (by rw [List.length_map]; exact h))]
  simp
theorem app_range {f : Nat → D} {i : Nat} (h : i < 1000000) : appD ((List.range i).map f) [f i] = some (.none, (List.range (i + 1)).map f) := by
  rw [appD_one (size_of (by rw [List.length_map, List.length_range]; exact h)), List.range_succ, List.map_append]
  rfl
theorem sumD_mapf {α : Type} {xs : List α} {t : α → Int} : sumD [.list (xs.map fun k => .int (t k))] = some (.int (xs.map t).sum) := by
  have e : (xs.map fun k => PyData.int (t k)) = (xs.map t).map PyData.int := by rw [List.map_map]; rfl
  rw [e, sumD_map]
section
variable {Q : Out → Prop}
/-- a loop over a range; what stands there is told by the number of turns -/
theorem W_forN {γ : Type} {g : Tg} {body : SM} (n : Nat) (st : Nat → γ → List Slot) (c : γ) (h : ∀ i < n, ∀ c, ∃ S1, g (nI i) (st i c) = some S1 ∧ Wp body S1 fun o => ∃ c', o = .nx (st (i + 1) c') ∨ o = .ct (st (i + 1) c')) (q : ∀ c', Q (.nx (st n c'))) :
    Wp (fun S => forL g body ((List.range n).map nI) S) (st 0 c) Q := by
  refine W_forE (β := Nat) nI st (fun s _ => s + 1) (fun i s => s = i) 0 c rfl (fun i x hx s c hs => ?_) (fun c' hc => ?_)
  · subst hs
    obtain ⟨hi, rfl⟩ : s < n ∧ s = x := by
      obtain ⟨h1, h2⟩ := List.getElem?_eq_some_iff.mp hx
      rw [List.length_range] at h1
      rw [List.getElem_range] at h2
      exact ⟨h1, h2⟩
    exact ⟨rfl, h s hi c⟩
  · rw [hc, List.length_range]
    exact q c'
/-- .. over any list -/
theorem W_forX {α γ : Type} (enc : α → D) {g : Tg} {body : SM} (xs : List α) (st : Nat → γ → List Slot) (c : γ) (h : ∀ i x, xs[i]? = some x → ∀ c, ∃ S1, g (enc x) (st i c) = some S1 ∧ Wp body S1 fun o => ∃ c', o = .nx (st (i + 1) c') ∨ o = .ct (st (i + 1) c')) (q : ∀ c', Q (.nx (st xs.length c'))) :
    Wp (fun S => forL g body (xs.map enc) S) (st 0 c) Q := by
  refine W_forE (β := Nat) enc st (fun s _ => s + 1) (fun i s => s = i) 0 c rfl (fun i x hx s c hs => ?_) (fun c' hc => ?_)
  · subst hs
    exact ⟨rfl, h s x hx c⟩
  · rw [hc]
    exact q c'
end
end FW

namespace FW
open PySem PySem.Spec L2
open PyProof.Rows hiding St
def topS (i : Nat) : Stmt := PySem.Challenge.pw_farwords_k01_whole_small_fields.main.body.getD i (.Pass ⟨0, 0, 0, 0⟩)
section
variable {P : Program} {w : World} {K : PySem.W.Frag} {mg : Str → Option Value} {base : Heap}
def i_SIZES : List Int := [2, 3, 4, 5, 7, 8, 9, 11, 13, 16]
abbrev c_SIZES : List D := i_SIZES.map PyData.int
def c_LEADS : List (Int × List Int) := [(4, [2, 2, 3]), (8, [2, 3, 3]), (9, [3, 2, 2]), (16, [2, 4, 3])]
/-! ### number_of -/
abbrev s_number_of : Stmt := topS 6
theorem sc_number_of : FnScope ["row", "base", "found", "digit"] ["row", "base"] (defScope s_number_of) := ⟨rfl, rfl, rfl, by decide +kernel, rfl, by decide +kernel, by decide +kernel⟩
def b_number_of : SM :=
  sSeq (sSet 2 (eC (.int 0))) (sSeq (sFor (iA (eUn revD (eV 0))) (gN 3) (sSeq (sSet 2 (eBin addD (eBin mulD (eV 2) (eV 1)) (eV 3))) (sNx))) (sSeq (sRet (eV 2)) (sNx)))
def f_number_of : List D → Rs := runF 4 b_number_of
theorem ok_number_of {f : Addr} {fd : FuncData} (B : Blt mg) (F : Fun K "number_of" "number_of" s_number_of f fd)  : FnOk P w K mg base CX0 1 f fd ["row", "base"] (spD0 K 2 f_number_of) := by
  refine ok_D0 (k := 0) (N := ["row", "base", "found", "digit"]) F sc_number_of fun cdv A outer s H E hr => ?_
  have hu := hr.units
  have nd := sc_number_of.nd
  exact (ds_cons (ds_set 2 nd de_int) (ds_cons (ds_for PassesOwn.never rfl (di_any (de_revL (dl_e (de_v 0)))) (dg_name 3 nd rfl (by first | exact Or.inl rfl | exact Or.inr rfl)) (ds_cons (ds_set 2 nd (de_op od_add (de_op od_mul (de_v 2) (dl_e (de_v 1))) (dl_e (de_v 3)))) ds_nil)) (ds_cons (ds_ret (de_v 2)) ds_nil)))
/-! ### digits -/
abbrev s_digits : Stmt := topS 5
theorem sc_digits : FnScope ["number", "base", "many", "found", "turn"] ["number", "base", "many"] (defScope s_digits) := ⟨rfl, rfl, rfl, by decide +kernel, rfl, by decide +kernel, by decide +kernel⟩
def b_digits : SM :=
  sSeq (sOwn 3 (eBind (aNil) fun ds => if small ds.length then eRet ds else fun _ => .bad)) (sSeq (sFor (iR1 (aCons (eV 2) (aNil))) (gN 4) (sSeq (sExpr (eMut 3 appD (aCons (eBin modD (eV 0) (eV 1)) (aNil)))) (sSeq (sSet 0 (eBin fdivD (eV 0) (eV 1))) (sNx)))) (sSeq (sRet (eV 3)) (sNx)))
def f_digits : List D → Rs := runF 5 b_digits
theorem ok_digits {f : Addr} {fd : FuncData} (B : Blt mg) (F : Fun K "digits" "digits" s_digits f fd)  : FnOk P w K mg base CX0 1 f fd ["number", "base", "many"] (spD0 K 3 f_digits) := by
  refine ok_D0 (k := 0) (N := ["number", "base", "many", "found", "turn"]) F sc_digits fun cdv A outer s H E hr => ?_
  have hu := hr.units
  have nd := sc_digits.nd
  exact (ds_cons (ds_own 3 nd (df_lst da_nil)) (ds_cons (ds_for PassesOwn.never rfl (di_range1 (by rfl) B.range (da_cons (de_v 2) da_nil)) (dg_name 4 nd rfl (by first | exact Or.inl rfl | exact Or.inr rfl)) (ds_cons (ds_expr (de_mut 3 md_append PySem.F.slot_list_append PySem.F.type_list_append (da_cons (de_op od_mod (de_v 0) (dl_e (de_v 1))) da_nil))) (ds_cons (ds_set 0 nd (de_op od_fdiv (de_v 0) (dl_e (de_v 1)))) ds_nil))) (ds_cons (ds_ret (de_v 3)) ds_nil)))
/-! ### Field__sum -/
abbrev s_Field__sum : Stmt := clsS (topS 7) 1
theorem sc_Field__sum : FnScope ["self", "one", "other", "first", "second", "k"] ["self", "one", "other"] (defScope s_Field__sum) := ⟨rfl, rfl, rfl, by decide +kernel, rfl, by decide +kernel, by decide +kernel⟩
def b_Field__sum : SM :=
  sSeq (sAsg (eTup (aCons (eCall 3 (f_digits) (aCons (eV 1) (aCons (eUn (fldD "Field" "base") (eV 0)) (aCons (eUn (fldD "Field" "many") (eV 0)) (aNil))))) (aCons (eCall 3 (f_digits) (aCons (eV 2) (aCons (eUn (fldD "Field" "base") (eV 0)) (aCons (eUn (fldD "Field" "many") (eV 0)) (aNil))))) (aNil)))) (gT (gsCons (gN 3) (gsCons (gN 4) (gsNil))) 2)) (sSeq (sRet (eCall 2 (f_number_of) (aCons (eFz (eComp [5] (iR1 (aCons (eUn (fldD "Field" "many") (eV 0)) (aNil))) (gN 5) (bYes) (eBin modD (eBin addD (eIx (eV 3) (eV 5)) (eIx (eV 4) (eV 5))) (eUn (fldD "Field" "base") (eV 0))))) (aCons (eUn (fldD "Field" "base") (eV 0)) (aNil))))) (sNx))
def f_Field__sum : List D → Rs := runF 6 b_Field__sum
theorem ok_Field__sum {f : Addr} {fd : FuncData} (B : Blt mg) (F : Fun K "_sum" "Field._sum" s_Field__sum f fd) (h_number_of : Cal P w K mg base CX0 "number_of" ["row", "base"] 1 (spD0 K 2 (f_number_of))) (c_Field : Cls K (He.ga K "Field")) (n_Field_base : NoAttr K (He.ga K "Field") "base") (n_Field_many : NoAttr K (He.ga K "Field") "many") (h_digits : Cal P w K mg base CX0 "digits" ["number", "base", "many"] 1 (spD0 K 3 (f_digits))) : FnOk P w K mg base CX0 2 f fd ["self", "one", "other"] (spD0 K 3 f_Field__sum) := by
  refine ok_D0 (k := 1) (N := ["self", "one", "other", "first", "second", "k"]) F sc_Field__sum fun cdv A outer s H E hr => ?_
  have hu := hr.units
  have nd := sc_Field__sum.nd
  exact (ds_cons (ds_asg (de_tup (da_cons (de_fn h_digits (hr.mono (by decide)) (da_cons (de_v 1) (da_cons (de_fld c_Field n_Field_base (de_v 0)) (da_cons (de_fld c_Field n_Field_many (de_v 0)) da_nil)))) (da_cons (de_fn h_digits (hr.mono (by decide)) (da_cons (de_v 2) (da_cons (de_fld c_Field n_Field_base (de_v 0)) (da_cons (de_fld c_Field n_Field_many (de_v 0)) da_nil)))) da_nil))) (dg_tup rfl (dgs_cons (dg_name 3 nd rfl (by first | exact Or.inl rfl | exact Or.inr rfl)) (dgs_cons (dg_name 4 nd rfl (by first | exact Or.inl rfl | exact Or.inr rfl)) dgs_nil)))) (ds_cons (ds_ret (de_fn h_number_of (hr.mono (by decide)) (da_cons (de_f (df_comp (own := [("k", 5)]) rfl nd (di_range1 (by rfl) B.range (da_cons (de_fld c_Field n_Field_many (de_v 0)) da_nil)) (blkOk_by (by rfl)) (fun _ _ _ _ _ => (dg_name 5 nd rfl (by first | exact Or.inl rfl | exact Or.inr rfl))) (fun _ _ _ _ _ => dts_nil) (fun _ _ _ _ _ => (de_op od_mod (de_op od_add (de_ix hu (de_v 3) (de_v 5)) (dl_e (de_ix hu (de_v 4) (de_v 5)))) (dl_e (de_fld c_Field n_Field_base (de_v 0))))) (by decide))) (da_cons (de_fld c_Field n_Field_base (de_v 0)) da_nil)))) ds_nil))
/-! ### Field__shifted -/
abbrev s_Field__shifted : Stmt := clsS (topS 7) 3
theorem sc_Field__shifted : FnScope ["self", "row", "lead", "top", "moved", "k"] ["self", "row"] (defScope s_Field__shifted) := ⟨rfl, rfl, rfl, by decide +kernel, rfl, by decide +kernel, by decide +kernel⟩
def b_Field__shifted : SM :=
  sSeq (sSet 2 (eCall 3 (f_digits) (aCons (eUn (fldD "Field" "lead") (eV 0)) (aCons (eUn (fldD "Field" "base") (eV 0)) (aCons (eUn (fldD "Field" "many") (eV 0)) (aNil)))))) (sSeq (sSet 3 (eIx (eV 1) (eUn negD (eC (.int 1))))) (sSeq (sSet 4 (eBin addD (eLst (aCons (eC (.int 0)) (aNil))) (eSl (eV 1) (oNo) (oSome (eUn negD (eC (.int 1))))))) (sSeq (sRet (eFz (eComp [5] (iR1 (aCons (eUn (fldD "Field" "many") (eV 0)) (aNil))) (gN 5) (bYes) (eBin modD (eBin addD (eIx (eV 4) (eV 5)) (eBin mulD (eV 3) (eIx (eV 2) (eV 5)))) (eUn (fldD "Field" "base") (eV 0)))))) (sNx))))
def f_Field__shifted : List D → Rs := runF 6 b_Field__shifted
theorem ok_Field__shifted {f : Addr} {fd : FuncData} (B : Blt mg) (F : Fun K "_shifted" "Field._shifted" s_Field__shifted f fd) (c_Field : Cls K (He.ga K "Field")) (n_Field_many : NoAttr K (He.ga K "Field") "many") (n_Field_base : NoAttr K (He.ga K "Field") "base") (h_digits : Cal P w K mg base CX0 "digits" ["number", "base", "many"] 1 (spD0 K 3 (f_digits))) (n_Field_lead : NoAttr K (He.ga K "Field") "lead") : FnOk P w K mg base CX0 2 f fd ["self", "row"] (spD0 K 2 f_Field__shifted) := by
  refine ok_D0 (k := 1) (N := ["self", "row", "lead", "top", "moved", "k"]) F sc_Field__shifted fun cdv A outer s H E hr => ?_
  have hu := hr.units
  have nd := sc_Field__shifted.nd
  exact (ds_cons (ds_set 2 nd (de_fn h_digits (hr.mono (by decide)) (da_cons (de_fld c_Field n_Field_lead (de_v 0)) (da_cons (de_fld c_Field n_Field_base (de_v 0)) (da_cons (de_fld c_Field n_Field_many (de_v 0)) da_nil))))) (ds_cons (ds_set 3 nd (de_ix hu (de_v 1) (de_un ud_neg de_int))) (ds_cons (ds_set 4 nd (de_op od_add (de_lst (da_cons de_int da_nil)) (dl_e (de_sl (de_v 1) dp_none (dp_some (de_un ud_neg de_int)))))) (ds_cons (ds_ret (de_f (df_comp (own := [("k", 5)]) rfl nd (di_range1 (by rfl) B.range (da_cons (de_fld c_Field n_Field_many (de_v 0)) da_nil)) (blkOk_by (by rfl)) (fun _ _ _ _ _ => (dg_name 5 nd rfl (by first | exact Or.inl rfl | exact Or.inr rfl))) (fun _ _ _ _ _ => dts_nil) (fun _ _ _ _ _ => (de_op od_mod (de_op od_add (de_ix hu (de_v 4) (de_v 5)) (dl_e (de_op od_mul (de_v 3) (dl_e (de_ix hu (de_v 2) (de_v 5)))))) (dl_e (de_fld c_Field n_Field_base (de_v 0))))) (by decide)))) ds_nil))))
/-! ### Field__product -/
abbrev s_Field__product : Stmt := clsS (topS 7) 2
theorem sc_Field__product : FnScope ["self", "one", "other", "found", "digit", "told", "k"] ["self", "one", "other"] (defScope s_Field__product) := ⟨rfl, rfl, rfl, by decide +kernel, rfl, by decide +kernel, by decide +kernel⟩
def b_Field__product : SM :=
  sSeq (sIf (bOf (eBin eqD (eUn (fldD "Field" "many") (eV 0)) (eC (.int 1)))) (sSeq (sRet (eBin modD (eBin mulD (eV 1) (eV 2)) (eUn (fldD "Field" "base") (eV 0)))) (sNx)) (sNx)) (sSeq (sSet 3 (eBin mulD (eLst (aCons (eC (.int 0)) (aNil))) (eUn (fldD "Field" "many") (eV 0)))) (sSeq (sFor (iA (eUn revD (eCall 3 (f_digits) (aCons (eV 2) (aCons (eUn (fldD "Field" "base") (eV 0)) (aCons (eUn (fldD "Field" "many") (eV 0)) (aNil))))))) (gN 4) (sSeq (sSet 3 (eMeth "Field" "_shifted" 1 f_Field__shifted (eV 0) (aCons (eV 3) (aNil)))) (sSeq (sSet 5 (eCall 3 (f_digits) (aCons (eV 1) (aCons (eUn (fldD "Field" "base") (eV 0)) (aCons (eUn (fldD "Field" "many") (eV 0)) (aNil)))))) (sSeq (sSet 3 (eFz (eComp [6] (iR1 (aCons (eUn (fldD "Field" "many") (eV 0)) (aNil))) (gN 6) (bYes) (eBin modD (eBin addD (eIx (eV 3) (eV 6)) (eBin mulD (eV 4) (eIx (eV 5) (eV 6)))) (eUn (fldD "Field" "base") (eV 0)))))) (sNx))))) (sSeq (sRet (eCall 2 (f_number_of) (aCons (eV 3) (aCons (eUn (fldD "Field" "base") (eV 0)) (aNil))))) (sNx))))
def f_Field__product : List D → Rs := runF 7 b_Field__product
theorem ok_Field__product {f : Addr} {fd : FuncData} (B : Blt mg) (F : Fun K "_product" "Field._product" s_Field__product f fd) (h_number_of : Cal P w K mg base CX0 "number_of" ["row", "base"] 1 (spD0 K 2 (f_number_of))) (c_Field : Cls K (He.ga K "Field")) (n_Field_base : NoAttr K (He.ga K "Field") "base") (h_digits : Cal P w K mg base CX0 "digits" ["number", "base", "many"] 1 (spD0 K 3 (f_digits))) (n_Field_many : NoAttr K (He.ga K "Field") "many") (h_Field__shifted : CalM P w K mg base "Field" "_shifted" ["self", "row"] 2 (spD0 K 2 f_Field__shifted)) : FnOk P w K mg base CX0 3 f fd ["self", "one", "other"] (spD0 K 3 f_Field__product) := by
  refine ok_D0 (k := 2) (N := ["self", "one", "other", "found", "digit", "told", "k"]) F sc_Field__product fun cdv A outer s H E hr => ?_
  have hu := hr.units
  have nd := sc_Field__product.nd
  exact (ds_cons (ds_if (dt_cmp (od_eq hu) (de_fld c_Field n_Field_many (de_v 0)) (dl_e de_int) (nomark _)) (ds_cons (ds_ret (de_op od_mod (de_op od_mul (de_v 1) (dl_e (de_v 2))) (dl_e (de_fld c_Field n_Field_base (de_v 0))))) ds_nil) ds_nil) (ds_cons (ds_set 3 nd (de_op od_mul (de_lst (da_cons de_int da_nil)) (dl_e (de_fld c_Field n_Field_many (de_v 0))))) (ds_cons (ds_for PassesOwn.never rfl (di_any (de_revL (dl_e (de_fn h_digits (hr.mono (by decide)) (da_cons (de_v 2) (da_cons (de_fld c_Field n_Field_base (de_v 0)) (da_cons (de_fld c_Field n_Field_many (de_v 0)) da_nil))))))) (dg_name 4 nd rfl (by first | exact Or.inl rfl | exact Or.inr rfl)) (ds_cons (ds_set 3 nd (de_meth h_Field__shifted (hr.mono (by decide)) (de_v 0) (da_cons (de_v 3) da_nil))) (ds_cons (ds_set 5 nd (de_fn h_digits (hr.mono (by decide)) (da_cons (de_v 1) (da_cons (de_fld c_Field n_Field_base (de_v 0)) (da_cons (de_fld c_Field n_Field_many (de_v 0)) da_nil))))) (ds_cons (ds_set 3 nd (de_f (df_comp (own := [("k", 6)]) rfl nd (di_range1 (by rfl) B.range (da_cons (de_fld c_Field n_Field_many (de_v 0)) da_nil)) (blkOk_by (by rfl)) (fun _ _ _ _ _ => (dg_name 6 nd rfl (by first | exact Or.inl rfl | exact Or.inr rfl))) (fun _ _ _ _ _ => dts_nil) (fun _ _ _ _ _ => (de_op od_mod (de_op od_add (de_ix hu (de_v 3) (de_v 6)) (dl_e (de_op od_mul (de_v 4) (dl_e (de_ix hu (de_v 5) (de_v 6)))))) (dl_e (de_fld c_Field n_Field_base (de_v 0))))) (by decide)))) ds_nil)))) (ds_cons (ds_ret (de_fn h_number_of (hr.mono (by decide)) (da_cons (de_v 3) (da_cons (de_fld c_Field n_Field_base (de_v 0)) da_nil)))) ds_nil))))
/-! ### Field_init -/
abbrev s_Field_init : Stmt := clsS (topS 7) 0
theorem sc_Field_init : FnScope ["self", "size", "a", "b"] ["self", "size"] (defScope s_Field_init) := ⟨rfl, rfl, rfl, by decide +kernel, rfl, by decide +kernel, by decide +kernel⟩
def b_Field_init : SM :=
  sSeq (sFldSet 0 "Field" "size" (eV 1)) (sSeq (sAsg (eKGet c_LEADS (eV 1) (eTup (aCons (eV 1) (aCons (eC (.int 1)) (aCons (eC (.int 0)) (aNil)))))) (gT (gsCons (gFld 0 "Field" "base") (gsCons (gFld 0 "Field" "many") (gsCons (gFld 0 "Field" "lead") (gsNil)))) 3)) (sSeq (sFldSet 0 "Field" "sums" (eFz (eComp [2] (iR1 (aCons (eV 1) (aNil))) (gN 2) (bYes) (eFz (eComp [3] (iR1 (aCons (eV 1) (aNil))) (gN 3) (bYes) (eMethO 0 "Field" "_sum" 2 f_Field__sum (aCons (eV 2) (aCons (eV 3) (aNil))))))))) (sSeq (sFldSet 0 "Field" "products" (eFz (eComp [2] (iR1 (aCons (eV 1) (aNil))) (gN 2) (bYes) (eFz (eComp [3] (iR1 (aCons (eV 1) (aNil))) (gN 3) (bYes) (eMethO 0 "Field" "_product" 2 f_Field__product (aCons (eV 2) (aCons (eV 3) (aNil))))))))) (sNx))))
def f_Field_init : Addr → Addr → List D → Option (List Str × List D) := runI 4 b_Field_init "Field"
theorem ok_Field_init {f : Addr} {fd : FuncData} (B : Blt mg) (F : Fun K "__init__" "Field.__init__" s_Field_init f fd) (h_Field__product : CalM P w K mg base "Field" "_product" ["self", "one", "other"] 3 (spD0 K 3 f_Field__product)) (c_Field : Cls K (He.ga K "Field")) (n_Field_products : NoAttr K (He.ga K "Field") "products") (h_Field__sum : CalM P w K mg base "Field" "_sum" ["self", "one", "other"] 2 (spD0 K 3 f_Field__sum)) (n_Field_sums : NoAttr K (He.ga K "Field") "sums") {es_LEADS : Array DictEntry} (t_LEADS : KTab K (He.ga K "LEADS") es_LEADS c_LEADS) (u_LEADS : mg "LEADS" = some (.ref (He.ga K "LEADS"))) (n_Field_lead : NoAttr K (He.ga K "Field") "lead") (n_Field_many : NoAttr K (He.ga K "Field") "many") (n_Field_base : NoAttr K (He.ga K "Field") "base") (n_Field_size : NoAttr K (He.ga K "Field") "size") : FnOk P w K mg base CX0 4 f fd ["self", "size"] (spI K "Field" 2 f_Field_init) := by
  refine ok_I (k := 3) (N := ["self", "size", "a", "b"]) "Field" F sc_Field_init (by decide) fun cdv A outer s H E hr => ?_
  have hu := hr.units
  have nd := sc_Field_init.nd
  exact (ds_cons (ds_fld 0 c_Field n_Field_size (de_v 1)) (ds_cons (ds_kget rfl t_LEADS u_LEADS (de_v 1) (de_tup (da_cons (de_v 1) (da_cons de_int (da_cons de_int da_nil)))) (dgs_cons (dg_fld 0 c_Field n_Field_base) (dgs_cons (dg_fld 0 c_Field n_Field_many) (dgs_cons (dg_fld 0 c_Field n_Field_lead) dgs_nil)))) (ds_cons (ds_fld 0 c_Field n_Field_sums (de_f (df_comp (own := [("a", 2)]) rfl nd (di_range1 (by rfl) B.range (da_cons (de_v 1) da_nil)) (blkOk_by (by rfl)) (fun _ _ _ _ _ => (dg_name 2 nd rfl (by first | exact Or.inl rfl | exact Or.inr rfl))) (fun _ _ _ _ _ => dts_nil) (fun _ _ _ _ _ => (de_f (df_comp (own := [("b", 3)]) rfl nd (di_range1 (by rfl) B.range (da_cons (de_v 1) da_nil)) (blkOk_by (by rfl)) (fun _ _ _ _ _ => (dg_name 3 nd rfl (by first | exact Or.inl rfl | exact Or.inr rfl))) (fun _ _ _ _ _ => dts_nil) (fun _ _ _ _ _ => (de_methO 0 h_Field__sum (hr.mono (by decide)) (da_cons (de_v 2) (da_cons (de_v 3) da_nil)))) (by decide)))) (by decide)))) (ds_cons (ds_fld 0 c_Field n_Field_products (de_f (df_comp (own := [("a", 2)]) rfl nd (di_range1 (by rfl) B.range (da_cons (de_v 1) da_nil)) (blkOk_by (by rfl)) (fun _ _ _ _ _ => (dg_name 2 nd rfl (by first | exact Or.inl rfl | exact Or.inr rfl))) (fun _ _ _ _ _ => dts_nil) (fun _ _ _ _ _ => (de_f (df_comp (own := [("b", 3)]) rfl nd (di_range1 (by rfl) B.range (da_cons (de_v 1) da_nil)) (blkOk_by (by rfl)) (fun _ _ _ _ _ => (dg_name 3 nd rfl (by first | exact Or.inl rfl | exact Or.inr rfl))) (fun _ _ _ _ _ => dts_nil) (fun _ _ _ _ _ => (de_methO 0 h_Field__product (hr.mono (by decide)) (da_cons (de_v 2) (da_cons (de_v 3) da_nil)))) (by decide)))) (by decide)))) ds_nil))))
def sizesOk : List Int := [2, 3, 4, 5, 7, 8, 9, 11, 13, 16]
def mk_Field (ds : List D) : Option (List Str × List D) := match ds with
  | [.int n] => if sizesOk.contains n then f_Field_init 0 1 [.int n] else none
  | _ => none
end
end FW

namespace FW
open PySem PySem.Spec L2
open PyProof.Rows hiding St
def digs (n b : Int) : Nat → List Int
  | 0 => []
  | m + 1 => (n % b) :: digs (n / b) b m
def quo (n b : Int) : Nat → Int
  | 0 => n
  | m + 1 => quo (n / b) b m
theorem digs_fold (b : Int) : ∀ (ds : List D) (n : Int) (acc : List Int) (t : Slot), ∃ t', ds.foldl (fun (s : (Int × List Int) × Slot) d => ((s.1.1 / b, s.1.2 ++ [s.1.1 % b]), Slot.dat d)) ((n, acc), t) = ((quo n b ds.length, acc ++ digs n b ds.length), t')
  | [], n, acc, t => ⟨t, by simp [quo, digs]⟩
  | d :: ds, n, acc, t => by
    obtain ⟨t', e⟩ := digs_fold b ds (n / b) (acc ++ [n % b]) (.dat d)
    refine ⟨t', ?_⟩
    rw [List.foldl_cons, e]
    simp [quo, digs]
theorem digits_eq {n b : Int} {m : Nat} (hb : 0 < b) (hb2 : b < 2 ^ 200) (hm : m < 1000) : f_digits [.int n, .int b, .int m] = .ok (.list ((digs n b m).map PyData.int)) := by
  refine Rp1.eq (R_run ?_)
  show Wp b_digits [.dat (.int n), .dat (.int b), .dat (.int m), .un, .un] _
  unfold b_digits
  simp only [Ep_ret, Ep_opt, Ep_bind, Ep_bad, Ep_ite, Ep_C, Ep_nil, Ep_no, Ep_some, Ep_yes, Ep_Vm, Ep_cons, Ep_bin, Ep_un, Ep_ix, Ep_B, Ep_BF, Ep_tup, Ep_lst, Ep_lstF, Ep_bOf, Ep_and, Ep_or, Ep_not, Ep_eAnd, Ep_eOr, Ep_eNot, Ep_eIf, Ep_sl, Ep_fz, Ep_call, Ep_meth, Ep_rng1, Ep_rng2, Ep_rng3, Ep_iA, Ep_mut, Wp_nx, Wp_pass, Wp_brk, Wp_cnt, Wp_retN, Wp_seq, nxt_nx, nxt_rt, nxt_bk, nxt_ct, Wp_asg, Wp_set, Wp_own, Wp_dat, Wp_dic, Wp_ret, Wp_expr, Wp_if, Wp_par, Wp_par3, Wp_aug, Wp_for, Wp_while, Wp_setIx, gN_some, List.getElem?_cons_zero, List.getElem?_cons_succ, List.set_cons_zero, List.set_cons_succ, List.length_cons, List.length_nil, Option.some.injEq, exists_eq_left', exists_eq_left, true_and, and_true, if_true, if_false, small_of (n := 0) (by omega), rng1_ok (n := m) (by omega)]
  refine ⟨by decide, ?_⟩
  refine W_forI (st := fun (s : (Int × List Int) × Slot) => [.dat (.int s.1.1), .dat (.int b), .dat (.int m), .own (s.1.2.map PyData.int), s.2]) (step := fun s d => ((s.1.1 / b, s.1.2 ++ [s.1.1 % b]), .dat d)) (I := fun i s => s.1.2.length = i) ((n, []), .un) rfl (fun i d hd s hI => ?_) (fun hI => ?_)
  · have hi : i < m := by
      have := (List.getElem?_eq_some_iff.mp hd).1
      simpa using this
    refine ⟨by simp [hI], _, rfl, ?_⟩
    simp only [Ep_ret, Ep_opt, Ep_bind, Ep_bad, Ep_ite, Ep_C, Ep_nil, Ep_no, Ep_some, Ep_yes, Ep_Vm, Ep_cons, Ep_bin, Ep_un, Ep_ix, Ep_B, Ep_BF, Ep_tup, Ep_lst, Ep_lstF, Ep_bOf, Ep_and, Ep_or, Ep_not, Ep_eAnd, Ep_eOr, Ep_eNot, Ep_eIf, Ep_sl, Ep_fz, Ep_call, Ep_meth, Ep_rng1, Ep_rng2, Ep_rng3, Ep_iA, Ep_mut, Wp_nx, Wp_pass, Wp_brk, Wp_cnt, Wp_retN, Wp_seq, nxt_nx, nxt_rt, nxt_bk, nxt_ct, Wp_asg, Wp_set, Wp_own, Wp_dat, Wp_dic, Wp_ret, Wp_expr, Wp_if, Wp_par, Wp_par3, Wp_aug, Wp_for, Wp_while, Wp_setIx, gN_some, List.getElem?_cons_zero, List.getElem?_cons_succ, List.set_cons_zero, List.set_cons_succ, List.length_cons, List.length_nil, Option.some.injEq, exists_eq_left', exists_eq_left, true_and, and_true, if_true, if_false, modD_ii hb, fdivD_ii hb hb2]
    rw [appD_one (size_of (by simp; omega))]
    simp
  · obtain ⟨t', e⟩ := digs_fold b ((List.range m).map fun i => PyData.int (i : Nat)) n [] .un
    rw [e]
    simp only [Ep_ret, Ep_opt, Ep_bind, Ep_bad, Ep_ite, Ep_C, Ep_nil, Ep_no, Ep_some, Ep_yes, Ep_Vm, Ep_cons, Ep_bin, Ep_un, Ep_ix, Ep_B, Ep_BF, Ep_tup, Ep_lst, Ep_lstF, Ep_bOf, Ep_and, Ep_or, Ep_not, Ep_eAnd, Ep_eOr, Ep_eNot, Ep_eIf, Ep_sl, Ep_fz, Ep_call, Ep_meth, Ep_rng1, Ep_rng2, Ep_rng3, Ep_iA, Ep_mut, Wp_nx, Wp_pass, Wp_brk, Wp_cnt, Wp_retN, Wp_seq, nxt_nx, nxt_rt, nxt_bk, nxt_ct, Wp_asg, Wp_set, Wp_own, Wp_dat, Wp_dic, Wp_ret, Wp_expr, Wp_if, Wp_par, Wp_par3, Wp_aug, Wp_for, Wp_while, Wp_setIx, gN_some, List.getElem?_cons_zero, List.getElem?_cons_succ, List.set_cons_zero, List.set_cons_succ, List.length_cons, List.length_nil, Option.some.injEq, exists_eq_left', exists_eq_left, true_and, and_true, if_true, if_false, List.length_map, List.length_range, List.nil_append]
def numOf (b : Int) (row : List Int) : Int := row.foldr (fun d acc => acc * b + d) 0
theorem number_fold (b : Int) : ∀ (row : List Int) (acc : Int) (t : Slot), ∃ t', (row.map PyData.int).foldl (fun (s : Int × Slot) d => (s.1 * b + (match d with | .int k => k | _ => 0), Slot.dat d)) (acc, t) = (row.foldl (fun acc d => acc * b + d) acc, t')
  | [], acc, t => ⟨t, rfl⟩
  | k :: row, acc, t => by
    obtain ⟨t', e⟩ := number_fold b row (acc * b + k) (.dat (.int k))
    exact ⟨t', e⟩
theorem number_of_eq {row : List Int} {b : Int} (hb : -(2 ^ 64) < b ∧ b < 2 ^ 64) : f_number_of [.list (row.map PyData.int), .int b] = .ok (.int (numOf b row)) := by
  refine Rp1.eq (R_run ?_)
  show Wp b_number_of [.dat (.list (row.map PyData.int)), .dat (.int b), .un, .un] _
  unfold b_number_of
  have er : revD (.list (row.map PyData.int)) = some (.list (row.reverse.map PyData.int)) := by
    show some (PyData.list (row.map PyData.int).reverse) = _
    rw [List.map_reverse]
  have ew : walkA (.list (row.reverse.map PyData.int)) = some (row.reverse.map PyData.int) := rfl
  simp only [Ep_ret, Ep_opt, Ep_bind, Ep_bad, Ep_ite, Ep_C, Ep_nil, Ep_no, Ep_some, Ep_yes, Ep_Vm, Ep_cons, Ep_bin, Ep_un, Ep_ix, Ep_B, Ep_BF, Ep_tup, Ep_lst, Ep_lstF, Ep_bOf, Ep_and, Ep_or, Ep_not, Ep_eAnd, Ep_eOr, Ep_eNot, Ep_eIf, Ep_sl, Ep_fz, Ep_call, Ep_meth, Ep_rng1, Ep_rng2, Ep_rng3, Ep_iA, Ep_mut, Wp_nx, Wp_pass, Wp_brk, Wp_cnt, Wp_retN, Wp_seq, nxt_nx, nxt_rt, nxt_bk, nxt_ct, Wp_asg, Wp_set, Wp_own, Wp_dat, Wp_dic, Wp_ret, Wp_expr, Wp_if, Wp_par, Wp_par3, Wp_aug, Wp_for, Wp_while, Wp_setIx, gN_some, List.getElem?_cons_zero, List.getElem?_cons_succ, List.set_cons_zero, List.set_cons_succ, List.length_cons, List.length_nil, Option.some.injEq, exists_eq_left', exists_eq_left, true_and, and_true, if_true, if_false, er, ew]
  refine ⟨by decide, ?_⟩
  refine W_forL (st := fun (s : Int × Slot) => [.dat (.list (row.map PyData.int)), .dat (.int b), .dat (.int s.1), s.2]) (step := fun s d => (s.1 * b + (match d with | .int k => k | _ => 0), .dat d)) (I := fun s => True) (0, .un) trivial (fun d hd s _ => ?_) (fun _ => ?_)
  · obtain ⟨k, _, rfl⟩ := List.mem_map.mp hd
    refine ⟨trivial, _, rfl, ?_⟩
    simp only [Ep_ret, Ep_opt, Ep_bind, Ep_bad, Ep_ite, Ep_C, Ep_nil, Ep_no, Ep_some, Ep_yes, Ep_Vm, Ep_cons, Ep_bin, Ep_un, Ep_ix, Ep_B, Ep_BF, Ep_tup, Ep_lst, Ep_lstF, Ep_bOf, Ep_and, Ep_or, Ep_not, Ep_eAnd, Ep_eOr, Ep_eNot, Ep_eIf, Ep_sl, Ep_fz, Ep_call, Ep_meth, Ep_rng1, Ep_rng2, Ep_rng3, Ep_iA, Ep_mut, Wp_nx, Wp_pass, Wp_brk, Wp_cnt, Wp_retN, Wp_seq, nxt_nx, nxt_rt, nxt_bk, nxt_ct, Wp_asg, Wp_set, Wp_own, Wp_dat, Wp_dic, Wp_ret, Wp_expr, Wp_if, Wp_par, Wp_par3, Wp_aug, Wp_for, Wp_while, Wp_setIx, gN_some, List.getElem?_cons_zero, List.getElem?_cons_succ, List.set_cons_zero, List.set_cons_succ, List.length_cons, List.length_nil, Option.some.injEq, exists_eq_left', exists_eq_left, true_and, and_true, if_true, if_false, mulD_ii (.inr hb), addD_ii]
    simp
  · obtain ⟨t', e⟩ := number_fold b row.reverse 0 .un
    rw [e]
    simp only [Ep_ret, Ep_opt, Ep_bind, Ep_bad, Ep_ite, Ep_C, Ep_nil, Ep_no, Ep_some, Ep_yes, Ep_Vm, Ep_cons, Ep_bin, Ep_un, Ep_ix, Ep_B, Ep_BF, Ep_tup, Ep_lst, Ep_lstF, Ep_bOf, Ep_and, Ep_or, Ep_not, Ep_eAnd, Ep_eOr, Ep_eNot, Ep_eIf, Ep_sl, Ep_fz, Ep_call, Ep_meth, Ep_rng1, Ep_rng2, Ep_rng3, Ep_iA, Ep_mut, Wp_nx, Wp_pass, Wp_brk, Wp_cnt, Wp_retN, Wp_seq, nxt_nx, nxt_rt, nxt_bk, nxt_ct, Wp_asg, Wp_set, Wp_own, Wp_dat, Wp_dic, Wp_ret, Wp_expr, Wp_if, Wp_par, Wp_par3, Wp_aug, Wp_for, Wp_while, Wp_setIx, gN_some, List.getElem?_cons_zero, List.getElem?_cons_succ, List.set_cons_zero, List.set_cons_succ, List.length_cons, List.length_nil, Option.some.injEq, exists_eq_left', exists_eq_left, true_and, and_true, if_true, if_false]
    simp [numOf, List.foldl_reverse]
/-! ### the field while it is made, and made -/
def fldObj (s b m l : Int) (ns : List Str) (ds : List D) : D := obD "Field" ("size" :: "base" :: "many" :: "lead" :: ns) (.int s :: .int b :: .int m :: .int l :: ds)
theorem f_size {s b m l : Int} {ns : List Str} {ds : List D} : fldD "Field" "size" (fldObj s b m l ns ds) = some (.int s) := rfl
theorem f_base {s b m l : Int} {ns : List Str} {ds : List D} : fldD "Field" "base" (fldObj s b m l ns ds) = some (.int b) := rfl
theorem f_many {s b m l : Int} {ns : List Str} {ds : List D} : fldD "Field" "many" (fldObj s b m l ns ds) = some (.int m) := rfl
theorem f_lead {s b m l : Int} {ns : List Str} {ds : List D} : fldD "Field" "lead" (fldObj s b m l ns ds) = some (.int l) := rfl
def sumF (b : Int) (m : Nat) (x y : Int) : Int := numOf b ((List.range m).map fun k => ((digs x b m).getD k 0 + (digs y b m).getD k 0) % b)
theorem digs_length (b : Int) : ∀ (m : Nat) (n : Int), (digs n b m).length = m
  | 0, n => rfl
  | m + 1, n => by rw [digs, List.length_cons, digs_length b m]
theorem digs_get {n b : Int} {m k : Nat} (h : k < m) : ((digs n b m).map PyData.int)[k]? = some (.int ((digs n b m).getD k 0)) := by
  have hl := digs_length b m n
  rw [List.getElem?_map, List.getElem?_eq_getElem (by omega), List.getD_eq_getElem?_getD, List.getElem?_eq_getElem (by omega)]
  rfl
theorem sum_eq {s b l x y : Int} {m : Nat} {ns : List Str} {ds : List D} (hb : 0 < b) (hb2 : b < 2 ^ 60) (hm : m < 1000) : f_Field__sum [fldObj s b m l ns ds, .int x, .int y] = .ok (.int (sumF b m x y)) := by
  refine Rp1.eq (R_run ?_)
  show Wp b_Field__sum [.dat (fldObj s b m l ns ds), .dat (.int x), .dat (.int y), .un, .un, .un] _
  unfold b_Field__sum
  have d1 := digits_eq (n := x) hb (show b < 2 ^ 200 by omega) hm
  have d2 := digits_eq (n := y) hb (show b < 2 ^ 200 by omega) hm
  simp only [Ep_ret, Ep_opt, Ep_bind, Ep_bad, Ep_ite, Ep_C, Ep_nil, Ep_no, Ep_some, Ep_yes, Ep_Vm, Ep_cons, Ep_bin, Ep_un, Ep_ix, Ep_B, Ep_BF, Ep_tup, Ep_lst, Ep_lstF, Ep_bOf, Ep_and, Ep_or, Ep_not, Ep_eAnd, Ep_eOr, Ep_eNot, Ep_eIf, Ep_sl, Ep_fz, Ep_call, Ep_meth, Ep_rng1, Ep_rng2, Ep_rng3, Ep_iA, Ep_mut, Wp_nx, Wp_pass, Wp_brk, Wp_cnt, Wp_retN, Wp_seq, nxt_nx, nxt_rt, nxt_bk, nxt_ct, Wp_asg, Wp_set, Wp_own, Wp_dat, Wp_dic, Wp_ret, Wp_expr, Wp_if, Wp_par, Wp_par3, Wp_aug, Wp_for, Wp_while, Wp_setIx, gN_some, List.getElem?_cons_zero, List.getElem?_cons_succ, List.set_cons_zero, List.set_cons_succ, List.length_cons, List.length_nil, Option.some.injEq, exists_eq_left', exists_eq_left, true_and, and_true, if_true, if_false, f_base, f_many]
  refine Rp1.of d1 (Rp1.of d2 ⟨by decide, _, rfl, ?_⟩)
  refine E_mapR m (fun k => .int (((digs x b m).getD k 0 + (digs y b m).getD k 0) % b)) ?_ (by simp) rfl (by omega) (fun k hk => ?_) ?_
  · simp only [Ep_ret, Ep_opt, Ep_bind, Ep_bad, Ep_ite, Ep_C, Ep_nil, Ep_no, Ep_some, Ep_yes, Ep_Vm, Ep_cons, Ep_bin, Ep_un, Ep_ix, Ep_B, Ep_BF, Ep_tup, Ep_lst, Ep_lstF, Ep_bOf, Ep_and, Ep_or, Ep_not, Ep_eAnd, Ep_eOr, Ep_eNot, Ep_eIf, Ep_sl, Ep_fz, Ep_call, Ep_meth, Ep_rng1, Ep_rng2, Ep_rng3, Ep_iA, Ep_mut, Wp_nx, Wp_pass, Wp_brk, Wp_cnt, Wp_retN, Wp_seq, nxt_nx, nxt_rt, nxt_bk, nxt_ct, Wp_asg, Wp_set, Wp_own, Wp_dat, Wp_dic, Wp_ret, Wp_expr, Wp_if, Wp_par, Wp_par3, Wp_aug, Wp_for, Wp_while, Wp_setIx, gN_some, List.getElem?_cons_zero, List.getElem?_cons_succ, List.set_cons_zero, List.set_cons_succ, List.length_cons, List.length_nil, Option.some.injEq, exists_eq_left', exists_eq_left, true_and, and_true, if_true, if_false, f_many, rng1_ok (n := m) (by omega), and_self]
  · simp only [Ep_ret, Ep_opt, Ep_bind, Ep_bad, Ep_ite, Ep_C, Ep_nil, Ep_no, Ep_some, Ep_yes, Ep_Vm, Ep_cons, Ep_bin, Ep_un, Ep_ix, Ep_B, Ep_BF, Ep_tup, Ep_lst, Ep_lstF, Ep_bOf, Ep_and, Ep_or, Ep_not, Ep_eAnd, Ep_eOr, Ep_eNot, Ep_eIf, Ep_sl, Ep_fz, Ep_call, Ep_meth, Ep_rng1, Ep_rng2, Ep_rng3, Ep_iA, Ep_mut, Wp_nx, Wp_pass, Wp_brk, Wp_cnt, Wp_retN, Wp_seq, nxt_nx, nxt_rt, nxt_bk, nxt_ct, Wp_asg, Wp_set, Wp_own, Wp_dat, Wp_dic, Wp_ret, Wp_expr, Wp_if, Wp_par, Wp_par3, Wp_aug, Wp_for, Wp_while, Wp_setIx, gN_some, List.getElem?_cons_zero, List.getElem?_cons_succ, List.set_cons_zero, List.set_cons_succ, List.length_cons, List.length_nil, Option.some.injEq, exists_eq_left', exists_eq_left, true_and, and_true, if_true, if_false, f_base, ixD_l (digs_get hk), addD_ii, modD_ii hb, and_self]
  · simp only [Ep_ret, Ep_opt, Ep_bind, Ep_bad, Ep_ite, Ep_C, Ep_nil, Ep_no, Ep_some, Ep_yes, Ep_Vm, Ep_cons, Ep_bin, Ep_un, Ep_ix, Ep_B, Ep_BF, Ep_tup, Ep_lst, Ep_lstF, Ep_bOf, Ep_and, Ep_or, Ep_not, Ep_eAnd, Ep_eOr, Ep_eNot, Ep_eIf, Ep_sl, Ep_fz, Ep_call, Ep_meth, Ep_rng1, Ep_rng2, Ep_rng3, Ep_iA, Ep_mut, Wp_nx, Wp_pass, Wp_brk, Wp_cnt, Wp_retN, Wp_seq, nxt_nx, nxt_rt, nxt_bk, nxt_ct, Wp_asg, Wp_set, Wp_own, Wp_dat, Wp_dic, Wp_ret, Wp_expr, Wp_if, Wp_par, Wp_par3, Wp_aug, Wp_for, Wp_while, Wp_setIx, gN_some, List.getElem?_cons_zero, List.getElem?_cons_succ, List.set_cons_zero, List.set_cons_succ, List.length_cons, List.length_nil, Option.some.injEq, exists_eq_left', exists_eq_left, true_and, and_true, if_true, if_false, f_base]
    have e := number_of_eq (row := (List.range m).map fun k => ((digs x b m).getD k 0 + (digs y b m).getD k 0) % b) (b := b) (by omega)
    rw [List.map_map] at e
    exact Rp1.of e rfl
/-! ### products -/
theorem ix_last {r : List Int} {t : Int} : ixD (.list ((r ++ [t]).map PyData.int)) (.int (-1)) = some (.int t) := by
  rw [List.map_append]
  exact atI_last _ _
theorem sl_last {r : List Int} {t : Int} : slD (.list ((r ++ [t]).map PyData.int)) none (some (-1)) = some (.list (r.map PyData.int)) := by
  have e : slD (.list ((r ++ [t]).map PyData.int)) none (some (-1)) = some (.list (cutD ((r ++ [t]).map PyData.int) none (some (-1)))) := rfl
  rw [e]
  congr 2
  unfold cutD
  have h1 : HT.sIx ((r ++ [t]).map PyData.int).length 0 none = 0 := rfl
  have h2 : HT.sIx ((r ++ [t]).map PyData.int).length ((r ++ [t]).map PyData.int).length (some (-1)) = r.length := by
    unfold HT.sIx
    simp
    omega
  rw [h1, h2]
  simp
def shiftL (b : Int) (lead : List Int) (m : Nat) (r : List Int) (t : Int) : List Int := (List.range m).map fun k => ((0 :: r).getD k 0 + t * lead.getD k 0) % b
theorem shifted_eq {s b l t : Int} {r : List Int} {ns : List Str} {ds : List D} (hb : 0 < b) (hb2 : b < 2 ^ 60) (hm : r.length < 900) (ht : 0 ≤ t ∧ t < b) :
    f_Field__shifted [fldObj s b (r.length + 1 : Nat) l ns ds, .list ((r ++ [t]).map PyData.int)] = .ok (.list ((shiftL b (digs l b (r.length + 1)) (r.length + 1) r t).map PyData.int)) := by
  refine Rp1.eq (R_run ?_)
  show Wp b_Field__shifted [.dat (fldObj s b (r.length + 1 : Nat) l ns ds), .dat (.list ((r ++ [t]).map PyData.int)), .un, .un, .un, .un] _
  unfold b_Field__shifted
  have d1 := digits_eq (n := l) hb (show b < 2 ^ 200 by omega) (m := r.length + 1) (by omega)
  have hneg : negD (.int 1) = some (.int (-1)) := rfl
  have hadd : addD (.list [.int 0]) (.list (r.map PyData.int)) = some (.list ((0 :: r).map PyData.int)) := by
    have : (1000 : Nat) < sizeLine := by decide
    have e : addD (.list [.int 0]) (.list (r.map PyData.int)) = (if [PyData.int 0].length + (r.map PyData.int).length ≤ sizeLine then some (.list ([PyData.int 0] ++ r.map PyData.int)) else none) := rfl
    rw [e, if_pos (by simp; omega)]
    rfl
  have has : asI (.int (-1)) = some (-1) := rfl
  simp only [Ep_ret, Ep_opt, Ep_bind, Ep_bad, Ep_ite, Ep_C, Ep_nil, Ep_no, Ep_some, Ep_yes, Ep_Vm, Ep_cons, Ep_bin, Ep_un, Ep_ix, Ep_B, Ep_BF, Ep_tup, Ep_lst, Ep_lstF, Ep_bOf, Ep_and, Ep_or, Ep_not, Ep_eAnd, Ep_eOr, Ep_eNot, Ep_eIf, Ep_sl, Ep_fz, Ep_call, Ep_meth, Ep_rng1, Ep_rng2, Ep_rng3, Ep_iA, Ep_mut, Wp_nx, Wp_pass, Wp_brk, Wp_cnt, Wp_retN, Wp_seq, nxt_nx, nxt_rt, nxt_bk, nxt_ct, Wp_asg, Wp_set, Wp_own, Wp_dat, Wp_dic, Wp_ret, Wp_expr, Wp_if, Wp_par, Wp_par3, Wp_aug, Wp_for, Wp_while, Wp_setIx, gN_some, List.getElem?_cons_zero, List.getElem?_cons_succ, List.set_cons_zero, List.set_cons_succ, List.length_cons, List.length_nil, Option.some.injEq, exists_eq_left', exists_eq_left, true_and, and_true, if_true, if_false, f_lead, f_base, f_many]
  refine Rp1.of d1 ⟨by decide, ?_⟩
  simp only [Ep_ret, Ep_opt, Ep_bind, Ep_bad, Ep_ite, Ep_C, Ep_nil, Ep_no, Ep_some, Ep_yes, Ep_Vm, Ep_cons, Ep_bin, Ep_un, Ep_ix, Ep_B, Ep_BF, Ep_tup, Ep_lst, Ep_lstF, Ep_bOf, Ep_and, Ep_or, Ep_not, Ep_eAnd, Ep_eOr, Ep_eNot, Ep_eIf, Ep_sl, Ep_fz, Ep_call, Ep_meth, Ep_rng1, Ep_rng2, Ep_rng3, Ep_iA, Ep_mut, Wp_nx, Wp_pass, Wp_brk, Wp_cnt, Wp_retN, Wp_seq, nxt_nx, nxt_rt, nxt_bk, nxt_ct, Wp_asg, Wp_set, Wp_own, Wp_dat, Wp_dic, Wp_ret, Wp_expr, Wp_if, Wp_par, Wp_par3, Wp_aug, Wp_for, Wp_while, Wp_setIx, gN_some, List.getElem?_cons_zero, List.getElem?_cons_succ, List.set_cons_zero, List.set_cons_succ, List.length_cons, List.length_nil, Option.some.injEq, exists_eq_left', exists_eq_left, true_and, and_true, if_true, if_false, hneg, ix_last, has, sl_last, hadd, f_many, small_of (n := 1) (by omega)]
  refine ⟨by simp, by simp, ?_⟩
  refine E_mapR (r.length + 1) (fun k => .int (((0 :: r).getD k 0 + t * (digs l b (r.length + 1)).getD k 0) % b)) ?_ (by simp) rfl (by omega) (fun k hk => ?_) ?_
  · simp only [Ep_ret, Ep_opt, Ep_bind, Ep_bad, Ep_ite, Ep_C, Ep_nil, Ep_no, Ep_some, Ep_yes, Ep_Vm, Ep_cons, Ep_bin, Ep_un, Ep_ix, Ep_B, Ep_BF, Ep_tup, Ep_lst, Ep_lstF, Ep_bOf, Ep_and, Ep_or, Ep_not, Ep_eAnd, Ep_eOr, Ep_eNot, Ep_eIf, Ep_sl, Ep_fz, Ep_call, Ep_meth, Ep_rng1, Ep_rng2, Ep_rng3, Ep_iA, Ep_mut, Wp_nx, Wp_pass, Wp_brk, Wp_cnt, Wp_retN, Wp_seq, nxt_nx, nxt_rt, nxt_bk, nxt_ct, Wp_asg, Wp_set, Wp_own, Wp_dat, Wp_dic, Wp_ret, Wp_expr, Wp_if, Wp_par, Wp_par3, Wp_aug, Wp_for, Wp_while, Wp_setIx, gN_some, List.getElem?_cons_zero, List.getElem?_cons_succ, List.set_cons_zero, List.set_cons_succ, List.length_cons, List.length_nil, Option.some.injEq, exists_eq_left', exists_eq_left, true_and, and_true, if_true, if_false, f_many, rng1_ok (n := r.length + 1) (by omega), and_self]
  · have g1 : ((0 :: r).map PyData.int)[k]? = some (.int ((0 :: r).getD k 0)) := by
      rw [List.getElem?_map, List.getElem?_eq_getElem (by simp; omega), List.getD_eq_getElem?_getD, List.getElem?_eq_getElem (by simp; omega)]
      rfl
    simp only [Ep_ret, Ep_opt, Ep_bind, Ep_bad, Ep_ite, Ep_C, Ep_nil, Ep_no, Ep_some, Ep_yes, Ep_Vm, Ep_cons, Ep_bin, Ep_un, Ep_ix, Ep_B, Ep_BF, Ep_tup, Ep_lst, Ep_lstF, Ep_bOf, Ep_and, Ep_or, Ep_not, Ep_eAnd, Ep_eOr, Ep_eNot, Ep_eIf, Ep_sl, Ep_fz, Ep_call, Ep_meth, Ep_rng1, Ep_rng2, Ep_rng3, Ep_iA, Ep_mut, Wp_nx, Wp_pass, Wp_brk, Wp_cnt, Wp_retN, Wp_seq, nxt_nx, nxt_rt, nxt_bk, nxt_ct, Wp_asg, Wp_set, Wp_own, Wp_dat, Wp_dic, Wp_ret, Wp_expr, Wp_if, Wp_par, Wp_par3, Wp_aug, Wp_for, Wp_while, Wp_setIx, gN_some, List.getElem?_cons_zero, List.getElem?_cons_succ, List.set_cons_zero, List.set_cons_succ, List.length_cons, List.length_nil, Option.some.injEq, exists_eq_left', exists_eq_left, true_and, and_true, if_true, if_false, f_base, ixD_l (digs_get hk), ixD_l g1, mulD_ii (i := t) (.inl (by omega)), addD_ii, modD_ii hb, and_self]
  · unfold shiftL
    rw [List.map_map]
    rfl
def mixL (b : Int) (told : List Int) (m : Nat) (sh : List Int) (digit : Int) : List Int := (List.range m).map fun k => (sh.getD k 0 + digit * told.getD k 0) % b
def stepP (b l x : Int) (m : Nat) (found : List Int) (digit : Int) : List Int := mixL b (digs x b m) m (shiftL b (digs l b m) m found.dropLast (found.getLastD 0)) digit
def prodF (b l x y : Int) (m : Nat) : Int := if m = 1 then x * y % b else numOf b ((digs y b m).reverse.foldl (stepP b l x m) (List.replicate m 0))
theorem mixL_ok {b : Int} (hb : 0 < b) (told : List Int) (m : Nat) (sh : List Int) (digit : Int) : (mixL b told m sh digit).length = m ∧ ∀ z ∈ mixL b told m sh digit, 0 ≤ z ∧ z < b := by
  unfold mixL
  refine ⟨by simp, fun z hz => ?_⟩
  obtain ⟨k, _, rfl⟩ := List.mem_map.mp hz
  exact ⟨Int.emod_nonneg _ (by omega), Int.emod_lt_of_pos _ hb⟩
theorem digs_bd {b : Int} (hb : 0 < b) : ∀ (m : Nat) (n : Int), ∀ z ∈ digs n b m, 0 ≤ z ∧ z < b
  | 0, n, z, h => by simp [digs] at h
  | m + 1, n, z, h => by
    rw [digs] at h
    rcases List.mem_cons.mp h with h | h
    · rw [h]
      exact ⟨Int.emod_nonneg _ (by omega), Int.emod_lt_of_pos _ hb⟩
    · exact digs_bd hb m _ z h
theorem snoc_of_len {r : List Int} {m : Nat} (h : r.length = m + 1) : r = r.dropLast ++ [r.getLastD 0] ∧ r.dropLast.length = m := by
  have hne : r ≠ [] := fun e => by rw [e] at h; simp at h
  refine ⟨?_, by rw [List.length_dropLast, h]; rfl⟩
  have e := List.dropLast_concat_getLast hne
  rw [List.getLastD_eq_getLast?, List.getLast?_eq_getLast hne]
  exact e.symm
def isInt : D → Int
  | .int k => k
  | _ => 0
theorem prod_fold (f : List Int → Int → List Int) (told : D) : ∀ (row : List Int) (acc : List Int) (t t2 : Slot), ∃ t' t2', (row.map PyData.int).foldl (fun (s : List Int × Slot × Slot) d => (f s.1 (isInt d), Slot.dat d, Slot.dat told)) (acc, t, t2) = (row.foldl f acc, t', t2')
  | [], acc, t, t2 => ⟨t, t2, rfl⟩
  | k :: row, acc, t, t2 => by
    obtain ⟨t', t2', e⟩ := prod_fold f told row (f acc k) (.dat (.int k)) (.dat told)
    exact ⟨t', t2', e⟩
theorem rep_flat (d : D) : ∀ m : Nat, (List.replicate m [d]).flatten = List.replicate m d
  | 0 => rfl
  | m + 1 => by rw [List.replicate_succ, List.flatten_cons, rep_flat d m]; rfl
theorem getD_int {r : List Int} {k : Nat} (h : k < r.length) : (r.map PyData.int)[k]? = some (.int (r.getD k 0)) := by
  rw [List.getElem?_map, List.getElem?_eq_getElem h, List.getD_eq_getElem?_getD, List.getElem?_eq_getElem h]
  rfl
theorem product_eq {s b l x y : Int} {m : Nat} {ns : List Str} {ds : List D} (hb : 0 < b) (hb2 : b < 2 ^ 60) (hm : 0 < m) (hm2 : m < 900) (hx : -(2 ^ 64) < x ∧ x < 2 ^ 64) (hob : isOb "Field" "_shifted" (fldObj s b m l ns ds) = true) :
    f_Field__product [fldObj s b m l ns ds, .int x, .int y] = .ok (.int (prodF b l x y m)) := by
  refine Rp1.eq (R_run ?_)
  show Wp b_Field__product [.dat (fldObj s b m l ns ds), .dat (.int x), .dat (.int y), .un, .un, .un, .un] _
  unfold b_Field__product
  have d1 := digits_eq (n := x) hb (show b < 2 ^ 200 by omega) (m := m) (by omega)
  have d2 := digits_eq (n := y) hb (show b < 2 ^ 200 by omega) (m := m) (by omega)
  have hrep : mulD (.list [.int 0]) (.int m) = some (.list ((List.replicate m 0).map PyData.int)) := by
    have : (1000 : Nat) < sizeLine := by decide
    have e : mulD (.list [.int 0]) (.int m) = (if -(2 ^ 63) ≤ (m : Int) ∧ (m : Int) < 2 ^ 63 ∧ [PyData.int 0].length * (m : Int).toNat ≤ sizeLine then some (.list (List.replicate (m : Int).toNat [PyData.int 0]).flatten) else none) := rfl
    rw [e, if_pos ⟨by omega, by omega, by simp; omega⟩, Int.toNat_natCast, List.map_replicate]
    rw [rep_flat]
  have er : revD (.list ((digs y b m).map PyData.int)) = some (.list ((digs y b m).reverse.map PyData.int)) := by
    show some (PyData.list ((digs y b m).map PyData.int).reverse) = _
    rw [List.map_reverse]
  have ew : walkA (.list ((digs y b m).reverse.map PyData.int)) = some ((digs y b m).reverse.map PyData.int) := rfl
  simp only [Ep_ret, Ep_opt, Ep_bind, Ep_bad, Ep_ite, Ep_C, Ep_nil, Ep_no, Ep_some, Ep_yes, Ep_Vm, Ep_cons, Ep_bin, Ep_un, Ep_ix, Ep_B, Ep_BF, Ep_tup, Ep_lst, Ep_lstF, Ep_bOf, Ep_and, Ep_or, Ep_not, Ep_eAnd, Ep_eOr, Ep_eNot, Ep_eIf, Ep_sl, Ep_fz, Ep_call, Ep_meth, Ep_rng1, Ep_rng2, Ep_rng3, Ep_iA, Ep_mut, Wp_nx, Wp_pass, Wp_brk, Wp_cnt, Wp_retN, Wp_seq, nxt_nx, nxt_rt, nxt_bk, nxt_ct, Wp_asg, Wp_set, Wp_own, Wp_dat, Wp_dic, Wp_ret, Wp_expr, Wp_if, Wp_par, Wp_par3, Wp_aug, Wp_for, Wp_while, Wp_setIx, gN_some, List.getElem?_cons_zero, List.getElem?_cons_succ, List.set_cons_zero, List.set_cons_succ, List.length_cons, List.length_nil, Option.some.injEq, exists_eq_left', exists_eq_left, true_and, and_true, if_true, if_false, f_many, eqD_ii, f_base]
  refine ⟨_, rfl, ?_⟩
  by_cases h1 : m = 1
  · rw [if_pos (by simp; omega)]
    simp only [Ep_ret, Ep_opt, Ep_bind, Ep_bad, Ep_ite, Ep_C, Ep_nil, Ep_no, Ep_some, Ep_yes, Ep_Vm, Ep_cons, Ep_bin, Ep_un, Ep_ix, Ep_B, Ep_BF, Ep_tup, Ep_lst, Ep_lstF, Ep_bOf, Ep_and, Ep_or, Ep_not, Ep_eAnd, Ep_eOr, Ep_eNot, Ep_eIf, Ep_sl, Ep_fz, Ep_call, Ep_meth, Ep_rng1, Ep_rng2, Ep_rng3, Ep_iA, Ep_mut, Wp_nx, Wp_pass, Wp_brk, Wp_cnt, Wp_retN, Wp_seq, nxt_nx, nxt_rt, nxt_bk, nxt_ct, Wp_asg, Wp_set, Wp_own, Wp_dat, Wp_dic, Wp_ret, Wp_expr, Wp_if, Wp_par, Wp_par3, Wp_aug, Wp_for, Wp_while, Wp_setIx, gN_some, List.getElem?_cons_zero, List.getElem?_cons_succ, List.set_cons_zero, List.set_cons_succ, List.length_cons, List.length_nil, Option.some.injEq, exists_eq_left', exists_eq_left, true_and, and_true, if_true, if_false, f_base, mulD_ii (.inl hx), modD_ii hb]
    unfold prodF
    rw [if_pos h1]
  · rw [if_neg (by simp; omega)]
    simp only [Ep_ret, Ep_opt, Ep_bind, Ep_bad, Ep_ite, Ep_C, Ep_nil, Ep_no, Ep_some, Ep_yes, Ep_Vm, Ep_cons, Ep_bin, Ep_un, Ep_ix, Ep_B, Ep_BF, Ep_tup, Ep_lst, Ep_lstF, Ep_bOf, Ep_and, Ep_or, Ep_not, Ep_eAnd, Ep_eOr, Ep_eNot, Ep_eIf, Ep_sl, Ep_fz, Ep_call, Ep_meth, Ep_rng1, Ep_rng2, Ep_rng3, Ep_iA, Ep_mut, Wp_nx, Wp_pass, Wp_brk, Wp_cnt, Wp_retN, Wp_seq, nxt_nx, nxt_rt, nxt_bk, nxt_ct, Wp_asg, Wp_set, Wp_own, Wp_dat, Wp_dic, Wp_ret, Wp_expr, Wp_if, Wp_par, Wp_par3, Wp_aug, Wp_for, Wp_while, Wp_setIx, gN_some, List.getElem?_cons_zero, List.getElem?_cons_succ, List.set_cons_zero, List.set_cons_succ, List.length_cons, List.length_nil, Option.some.injEq, exists_eq_left', exists_eq_left, true_and, and_true, if_true, if_false, small_of (n := 1) (by omega), f_many, hrep]
    refine ⟨by simp, ?_⟩
    refine Rp1.of d2 ?_
    simp only [er, ew, Ep_ret, Ep_opt, Ep_bind, Ep_bad, Ep_ite, Ep_C, Ep_nil, Ep_no, Ep_some, Ep_yes, Ep_Vm, Ep_cons, Ep_bin, Ep_un, Ep_ix, Ep_B, Ep_BF, Ep_tup, Ep_lst, Ep_lstF, Ep_bOf, Ep_and, Ep_or, Ep_not, Ep_eAnd, Ep_eOr, Ep_eNot, Ep_eIf, Ep_sl, Ep_fz, Ep_call, Ep_meth, Ep_rng1, Ep_rng2, Ep_rng3, Ep_iA, Ep_mut, Wp_nx, Wp_pass, Wp_brk, Wp_cnt, Wp_retN, Wp_seq, nxt_nx, nxt_rt, nxt_bk, nxt_ct, Wp_asg, Wp_set, Wp_own, Wp_dat, Wp_dic, Wp_ret, Wp_expr, Wp_if, Wp_par, Wp_par3, Wp_aug, Wp_for, Wp_while, Wp_setIx, gN_some, List.getElem?_cons_zero, List.getElem?_cons_succ, List.set_cons_zero, List.set_cons_succ, List.length_cons, List.length_nil, Option.some.injEq, exists_eq_left', exists_eq_left, true_and, and_true, if_true, if_false]
    refine W_forI (st := fun (q : List Int × Slot × Slot) => [.dat (fldObj s b m l ns ds), .dat (.int x), .dat (.int y), .dat (.list (q.1.map PyData.int)), q.2.1, q.2.2, .un]) (step := fun q d => (stepP b l x m q.1 (isInt d), .dat d, .dat (.list ((digs x b m).map PyData.int)))) (I := fun i q => q.1.length = m ∧ (∀ z ∈ q.1, 0 ≤ z ∧ z < b) ∧ plainSlot q.2.2 = true) (List.replicate m 0, .un, .un) ⟨by simp, by simp; omega, rfl⟩ (fun i d hd q hI => ?_) (fun hI => ?_)
    · obtain ⟨hI1, hI2, hI3⟩ := hI
      obtain ⟨⟨found, p2, p3⟩, rfl⟩ : ∃ z : List Int × Slot × Slot, q = z := ⟨q, rfl⟩
      simp only at hI1 hI2 hI3
      obtain ⟨k, _, rfl⟩ := List.mem_map.mp (List.mem_of_getElem? hd)
      obtain ⟨r, t, rfl⟩ : ∃ r t, found = r ++ [t] := by
        obtain ⟨e, _⟩ := snoc_of_len (r := found) (m := m - 1) (by omega)
        exact ⟨_, _, e⟩
      have hlen : r.length + 1 = m := by simpa using hI1
      subst hlen
      have ht := hI2 t (by simp)
      have hmx := mixL_ok hb (digs x b (r.length + 1)) (r.length + 1) (shiftL b (digs l b (r.length + 1)) (r.length + 1) r t) k
      have hst : stepP b l x (r.length + 1) (r ++ [t]) k = mixL b (digs x b (r.length + 1)) (r.length + 1) (shiftL b (digs l b (r.length + 1)) (r.length + 1) r t) k := by
        unfold stepP
        simp
      have hsl : (shiftL b (digs l b (r.length + 1)) (r.length + 1) r t).length = r.length + 1 := by
        unfold shiftL
        simp
      refine ⟨⟨?_, ?_, rfl⟩, _, rfl, ?_⟩
      · show (stepP b l x (r.length + 1) (r ++ [t]) k).length = _
        rw [hst]
        exact hmx.1
      · show ∀ z ∈ stepP b l x (r.length + 1) (r ++ [t]) k, _
        rw [hst]
        exact hmx.2
      · have hsh := shifted_eq (s := s) (l := l) (t := t) (r := r) (ns := ns) (ds := ds) hb hb2 (by omega) ht
        simp only [Ep_ret, Ep_opt, Ep_bind, Ep_bad, Ep_ite, Ep_C, Ep_nil, Ep_no, Ep_some, Ep_yes, Ep_Vm, Ep_cons, Ep_bin, Ep_un, Ep_ix, Ep_B, Ep_BF, Ep_tup, Ep_lst, Ep_lstF, Ep_bOf, Ep_and, Ep_or, Ep_not, Ep_eAnd, Ep_eOr, Ep_eNot, Ep_eIf, Ep_sl, Ep_fz, Ep_call, Ep_meth, Ep_rng1, Ep_rng2, Ep_rng3, Ep_iA, Ep_mut, Wp_nx, Wp_pass, Wp_brk, Wp_cnt, Wp_retN, Wp_seq, nxt_nx, nxt_rt, nxt_bk, nxt_ct, Wp_asg, Wp_set, Wp_own, Wp_dat, Wp_dic, Wp_ret, Wp_expr, Wp_if, Wp_par, Wp_par3, Wp_aug, Wp_for, Wp_while, Wp_setIx, gN_some, List.getElem?_cons_zero, List.getElem?_cons_succ, List.set_cons_zero, List.set_cons_succ, List.length_cons, List.length_nil, Option.some.injEq, exists_eq_left', exists_eq_left, true_and, and_true, if_true, if_false]
        refine ⟨hob, Rp1.of hsh ⟨by simp, _, f_base, _, f_many, Rp1.of d1 ⟨by simp, ?_⟩⟩⟩
        refine E_mapR (r.length + 1) (fun i => .int (((shiftL b (digs l b (r.length + 1)) (r.length + 1) r t).getD i 0 + k * (digs x b (r.length + 1)).getD i 0) % b)) ?_ (by simp) rfl (by omega) (fun i hi => ?_) ?_
        · simp only [Ep_ret, Ep_opt, Ep_bind, Ep_bad, Ep_ite, Ep_C, Ep_nil, Ep_no, Ep_some, Ep_yes, Ep_Vm, Ep_cons, Ep_bin, Ep_un, Ep_ix, Ep_B, Ep_BF, Ep_tup, Ep_lst, Ep_lstF, Ep_bOf, Ep_and, Ep_or, Ep_not, Ep_eAnd, Ep_eOr, Ep_eNot, Ep_eIf, Ep_sl, Ep_fz, Ep_call, Ep_meth, Ep_rng1, Ep_rng2, Ep_rng3, Ep_iA, Ep_mut, Wp_nx, Wp_pass, Wp_brk, Wp_cnt, Wp_retN, Wp_seq, nxt_nx, nxt_rt, nxt_bk, nxt_ct, Wp_asg, Wp_set, Wp_own, Wp_dat, Wp_dic, Wp_ret, Wp_expr, Wp_if, Wp_par, Wp_par3, Wp_aug, Wp_for, Wp_while, Wp_setIx, gN_some, List.getElem?_cons_zero, List.getElem?_cons_succ, List.set_cons_zero, List.set_cons_succ, List.length_cons, List.length_nil, Option.some.injEq, exists_eq_left', exists_eq_left, true_and, and_true, if_true, if_false, f_many, rng1_ok (n := r.length + 1) (by omega), and_self]
        · have hk := digs_bd hb _ _ k (by simpa using List.mem_of_getElem? hd)
          simp only [Ep_ret, Ep_opt, Ep_bind, Ep_bad, Ep_ite, Ep_C, Ep_nil, Ep_no, Ep_some, Ep_yes, Ep_Vm, Ep_cons, Ep_bin, Ep_un, Ep_ix, Ep_B, Ep_BF, Ep_tup, Ep_lst, Ep_lstF, Ep_bOf, Ep_and, Ep_or, Ep_not, Ep_eAnd, Ep_eOr, Ep_eNot, Ep_eIf, Ep_sl, Ep_fz, Ep_call, Ep_meth, Ep_rng1, Ep_rng2, Ep_rng3, Ep_iA, Ep_mut, Wp_nx, Wp_pass, Wp_brk, Wp_cnt, Wp_retN, Wp_seq, nxt_nx, nxt_rt, nxt_bk, nxt_ct, Wp_asg, Wp_set, Wp_own, Wp_dat, Wp_dic, Wp_ret, Wp_expr, Wp_if, Wp_par, Wp_par3, Wp_aug, Wp_for, Wp_while, Wp_setIx, gN_some, List.getElem?_cons_zero, List.getElem?_cons_succ, List.set_cons_zero, List.set_cons_succ, List.length_cons, List.length_nil, Option.some.injEq, exists_eq_left', exists_eq_left, true_and, and_true, if_true, if_false, f_base, ixD_l (digs_get hi), ixD_l (getD_int (by rw [hsl]; exact hi)), mulD_ii (i := k) (.inl (by omega)), addD_ii, modD_ii hb, and_self]
        · refine ⟨by simp, .inl ?_⟩
          simp only [isInt, hst]
          unfold mixL
          rw [List.map_map]
          rfl
    · obtain ⟨t', t2', e⟩ := prod_fold (stepP b l x m) (.list ((digs x b m).map PyData.int)) (digs y b m).reverse (List.replicate m 0) .un .un
      rw [e] at hI ⊢
      simp only [Ep_ret, Ep_opt, Ep_bind, Ep_bad, Ep_ite, Ep_C, Ep_nil, Ep_no, Ep_some, Ep_yes, Ep_Vm, Ep_cons, Ep_bin, Ep_un, Ep_ix, Ep_B, Ep_BF, Ep_tup, Ep_lst, Ep_lstF, Ep_bOf, Ep_and, Ep_or, Ep_not, Ep_eAnd, Ep_eOr, Ep_eNot, Ep_eIf, Ep_sl, Ep_fz, Ep_call, Ep_meth, Ep_rng1, Ep_rng2, Ep_rng3, Ep_iA, Ep_mut, Wp_nx, Wp_pass, Wp_brk, Wp_cnt, Wp_retN, Wp_seq, nxt_nx, nxt_rt, nxt_bk, nxt_ct, Wp_asg, Wp_set, Wp_own, Wp_dat, Wp_dic, Wp_ret, Wp_expr, Wp_if, Wp_par, Wp_par3, Wp_aug, Wp_for, Wp_while, Wp_setIx, gN_some, List.getElem?_cons_zero, List.getElem?_cons_succ, List.set_cons_zero, List.set_cons_succ, List.length_cons, List.length_nil, Option.some.injEq, exists_eq_left', exists_eq_left, true_and, and_true, if_true, if_false, f_base]
      have en := number_of_eq (row := (digs y b m).reverse.foldl (stepP b l x m) (List.replicate m 0)) (b := b) (by omega)
      refine Rp1.of en ?_
      unfold prodF
      rw [if_neg h1]
def tabI (n : Nat) (f : Nat → Nat → Int) : D := .list ((List.range n).map fun a => .list ((List.range n).map fun c => .int (f a c)))
def fNs : List Str := ["size", "base", "many", "lead", "sums", "products"]
def sumT (b : Int) (m n : Nat) : D := tabI n fun x y => sumF b m x y
def prodT (b l : Int) (m n : Nat) : D := tabI n fun x y => prodF b l x y m
def fDs (n : Nat) (b l : Int) (m : Nat) : List D := [.int n, .int b, .int m, .int l, sumT b m n, prodT b l m n]
theorem Field_init_eq {a dx : Addr} {n m : Nat} {b l : Int} (hn : n < 1000) (hb : 0 < b) (hb2 : b < 2 ^ 60) (hm : 0 < m) (hm2 : m < 900)
    (ht : tabD c_LEADS n (.tuple [.int n, .int 1, .int 0]) = .tuple [.int b, .int m, .int l]) : f_Field_init a dx [.int n] = some (fNs, fDs n b l m) := by
  refine I_run ?_
  show Wp b_Field_init [.obj a dx "Field" [] [], .dat (.int n), .un, .un] _
  unfold b_Field_init
  rw [Wp_seq]
  refine W_fld ?_
  simp only [Ep_ret, Ep_opt, Ep_bind, Ep_bad, Ep_ite, Ep_C, Ep_nil, Ep_no, Ep_some, Ep_yes, Ep_Vm, Ep_cons, Ep_bin, Ep_un, Ep_ix, Ep_B, Ep_BF, Ep_tup, Ep_lst, Ep_lstF, Ep_bOf, Ep_and, Ep_or, Ep_not, Ep_eAnd, Ep_eOr, Ep_eNot, Ep_eIf, Ep_sl, Ep_fz, Ep_call, Ep_meth, Ep_rng1, Ep_rng2, Ep_rng3, Ep_iA, Ep_mut, Wp_nx, Wp_pass, Wp_brk, Wp_cnt, Wp_retN, Wp_seq, nxt_nx, nxt_rt, nxt_bk, nxt_ct, Wp_asg, Wp_set, Wp_own, Wp_dat, Wp_dic, Wp_ret, Wp_expr, Wp_if, Wp_par, Wp_par3, Wp_aug, Wp_for, Wp_while, Wp_setIx, gN_some, List.getElem?_cons_zero, List.getElem?_cons_succ, List.set_cons_zero, List.set_cons_succ, List.length_cons, List.length_nil, Option.some.injEq, exists_eq_left', exists_eq_left, true_and, and_true, if_true, if_false]
  refine ⟨a, dx, [], [], rfl, rfl, by decide, ?_⟩
  simp only [Ep_ret, Ep_opt, Ep_bind, Ep_bad, Ep_ite, Ep_C, Ep_nil, Ep_no, Ep_some, Ep_yes, Ep_Vm, Ep_cons, Ep_bin, Ep_un, Ep_ix, Ep_B, Ep_BF, Ep_tup, Ep_lst, Ep_lstF, Ep_bOf, Ep_and, Ep_or, Ep_not, Ep_eAnd, Ep_eOr, Ep_eNot, Ep_eIf, Ep_sl, Ep_fz, Ep_call, Ep_meth, Ep_rng1, Ep_rng2, Ep_rng3, Ep_iA, Ep_mut, Wp_nx, Wp_pass, Wp_brk, Wp_cnt, Wp_retN, Wp_seq, nxt_nx, nxt_rt, nxt_bk, nxt_ct, Wp_asg, Wp_set, Wp_own, Wp_dat, Wp_dic, Wp_ret, Wp_expr, Wp_if, Wp_par, Wp_par3, Wp_aug, Wp_for, Wp_while, Wp_setIx, gN_some, List.getElem?_cons_zero, List.getElem?_cons_succ, List.set_cons_zero, List.set_cons_succ, List.length_cons, List.length_nil, Option.some.injEq, exists_eq_left', exists_eq_left, true_and, and_true, if_true, if_false, Ep_kget, small_of (n := 3) (by omega)]
  refine ⟨n, rfl, ?_⟩
  rw [ht]
  refine ⟨[.obj a dx "Field" ["size", "base", "many", "lead"] [.int n, .int b, .int m, .int l], .dat (.int n), .un, .un], rfl, ?_⟩
  refine W_fld ?_
  simp only [Ep_ret, Ep_opt, Ep_bind, Ep_bad, Ep_ite, Ep_C, Ep_nil, Ep_no, Ep_some, Ep_yes, Ep_Vm, Ep_cons, Ep_bin, Ep_un, Ep_ix, Ep_B, Ep_BF, Ep_tup, Ep_lst, Ep_lstF, Ep_bOf, Ep_and, Ep_or, Ep_not, Ep_eAnd, Ep_eOr, Ep_eNot, Ep_eIf, Ep_sl, Ep_fz, Ep_call, Ep_meth, Ep_rng1, Ep_rng2, Ep_rng3, Ep_iA, Ep_mut, Wp_nx, Wp_pass, Wp_brk, Wp_cnt, Wp_retN, Wp_seq, nxt_nx, nxt_rt, nxt_bk, nxt_ct, Wp_asg, Wp_set, Wp_own, Wp_dat, Wp_dic, Wp_ret, Wp_expr, Wp_if, Wp_par, Wp_par3, Wp_aug, Wp_for, Wp_while, Wp_setIx, gN_some, List.getElem?_cons_zero, List.getElem?_cons_succ, List.set_cons_zero, List.set_cons_succ, List.length_cons, List.length_nil, Option.some.injEq, exists_eq_left', exists_eq_left, true_and, and_true, if_true, if_false]
  refine E_mapR n (fun x => .list ((List.range n).map fun y : Nat => .int (sumF b m x y))) ?_ (by simp) rfl (by omega) (fun x hx => ?_) ?_
  · simp only [Ep_ret, Ep_opt, Ep_bind, Ep_bad, Ep_ite, Ep_C, Ep_nil, Ep_no, Ep_some, Ep_yes, Ep_Vm, Ep_cons, Ep_bin, Ep_un, Ep_ix, Ep_B, Ep_BF, Ep_tup, Ep_lst, Ep_lstF, Ep_bOf, Ep_and, Ep_or, Ep_not, Ep_eAnd, Ep_eOr, Ep_eNot, Ep_eIf, Ep_sl, Ep_fz, Ep_call, Ep_meth, Ep_rng1, Ep_rng2, Ep_rng3, Ep_iA, Ep_mut, Wp_nx, Wp_pass, Wp_brk, Wp_cnt, Wp_retN, Wp_seq, nxt_nx, nxt_rt, nxt_bk, nxt_ct, Wp_asg, Wp_set, Wp_own, Wp_dat, Wp_dic, Wp_ret, Wp_expr, Wp_if, Wp_par, Wp_par3, Wp_aug, Wp_for, Wp_while, Wp_setIx, gN_some, List.getElem?_cons_zero, List.getElem?_cons_succ, List.set_cons_zero, List.set_cons_succ, List.length_cons, List.length_nil, Option.some.injEq, exists_eq_left', exists_eq_left, true_and, and_true, if_true, if_false, rng1_ok (n := n) (by omega), and_self]
  · simp only [Ep_ret, Ep_opt, Ep_bind, Ep_bad, Ep_ite, Ep_C, Ep_nil, Ep_no, Ep_some, Ep_yes, Ep_Vm, Ep_cons, Ep_bin, Ep_un, Ep_ix, Ep_B, Ep_BF, Ep_tup, Ep_lst, Ep_lstF, Ep_bOf, Ep_and, Ep_or, Ep_not, Ep_eAnd, Ep_eOr, Ep_eNot, Ep_eIf, Ep_sl, Ep_fz, Ep_call, Ep_meth, Ep_rng1, Ep_rng2, Ep_rng3, Ep_iA, Ep_mut, Wp_nx, Wp_pass, Wp_brk, Wp_cnt, Wp_retN, Wp_seq, nxt_nx, nxt_rt, nxt_bk, nxt_ct, Wp_asg, Wp_set, Wp_own, Wp_dat, Wp_dic, Wp_ret, Wp_expr, Wp_if, Wp_par, Wp_par3, Wp_aug, Wp_for, Wp_while, Wp_setIx, gN_some, List.getElem?_cons_zero, List.getElem?_cons_succ, List.set_cons_zero, List.set_cons_succ, List.length_cons, List.length_nil, Option.some.injEq, exists_eq_left', exists_eq_left, true_and, and_true, if_true, if_false]
    refine E_mapR n (fun y => .int (sumF b m x y)) ?_ (by simp) rfl (by omega) (fun y hy => ?_) ?_
    · simp only [Ep_ret, Ep_opt, Ep_bind, Ep_bad, Ep_ite, Ep_C, Ep_nil, Ep_no, Ep_some, Ep_yes, Ep_Vm, Ep_cons, Ep_bin, Ep_un, Ep_ix, Ep_B, Ep_BF, Ep_tup, Ep_lst, Ep_lstF, Ep_bOf, Ep_and, Ep_or, Ep_not, Ep_eAnd, Ep_eOr, Ep_eNot, Ep_eIf, Ep_sl, Ep_fz, Ep_call, Ep_meth, Ep_rng1, Ep_rng2, Ep_rng3, Ep_iA, Ep_mut, Wp_nx, Wp_pass, Wp_brk, Wp_cnt, Wp_retN, Wp_seq, nxt_nx, nxt_rt, nxt_bk, nxt_ct, Wp_asg, Wp_set, Wp_own, Wp_dat, Wp_dic, Wp_ret, Wp_expr, Wp_if, Wp_par, Wp_par3, Wp_aug, Wp_for, Wp_while, Wp_setIx, gN_some, List.getElem?_cons_zero, List.getElem?_cons_succ, List.set_cons_zero, List.set_cons_succ, List.length_cons, List.length_nil, Option.some.injEq, exists_eq_left', exists_eq_left, true_and, and_true, if_true, if_false, rng1_ok (n := n) (by omega), and_self]
    · refine E_methO rfl (by decide) ?_
      simp only [Ep_ret, Ep_opt, Ep_bind, Ep_bad, Ep_ite, Ep_C, Ep_nil, Ep_no, Ep_some, Ep_yes, Ep_Vm, Ep_cons, Ep_bin, Ep_un, Ep_ix, Ep_B, Ep_BF, Ep_tup, Ep_lst, Ep_lstF, Ep_bOf, Ep_and, Ep_or, Ep_not, Ep_eAnd, Ep_eOr, Ep_eNot, Ep_eIf, Ep_sl, Ep_fz, Ep_call, Ep_meth, Ep_rng1, Ep_rng2, Ep_rng3, Ep_iA, Ep_mut, Wp_nx, Wp_pass, Wp_brk, Wp_cnt, Wp_retN, Wp_seq, nxt_nx, nxt_rt, nxt_bk, nxt_ct, Wp_asg, Wp_set, Wp_own, Wp_dat, Wp_dic, Wp_ret, Wp_expr, Wp_if, Wp_par, Wp_par3, Wp_aug, Wp_for, Wp_while, Wp_setIx, gN_some, List.getElem?_cons_zero, List.getElem?_cons_succ, List.set_cons_zero, List.set_cons_succ, List.length_cons, List.length_nil, Option.some.injEq, exists_eq_left', exists_eq_left, true_and, and_true, if_true, if_false]
      have e := sum_eq (s := n) (b := b) (l := l) (x := x) (y := y) (m := m) (ns := []) (ds := []) hb hb2 (by omega)
      exact ⟨_, e, rfl⟩
    · simp
  simp only [Ep_ret, Ep_opt, Ep_bind, Ep_bad, Ep_ite, Ep_C, Ep_nil, Ep_no, Ep_some, Ep_yes, Ep_Vm, Ep_cons, Ep_bin, Ep_un, Ep_ix, Ep_B, Ep_BF, Ep_tup, Ep_lst, Ep_lstF, Ep_bOf, Ep_and, Ep_or, Ep_not, Ep_eAnd, Ep_eOr, Ep_eNot, Ep_eIf, Ep_sl, Ep_fz, Ep_call, Ep_meth, Ep_rng1, Ep_rng2, Ep_rng3, Ep_iA, Ep_mut, Wp_nx, Wp_pass, Wp_brk, Wp_cnt, Wp_retN, Wp_seq, nxt_nx, nxt_rt, nxt_bk, nxt_ct, Wp_asg, Wp_set, Wp_own, Wp_dat, Wp_dic, Wp_ret, Wp_expr, Wp_if, Wp_par, Wp_par3, Wp_aug, Wp_for, Wp_while, Wp_setIx, gN_some, List.getElem?_cons_zero, List.getElem?_cons_succ, List.set_cons_zero, List.set_cons_succ, List.length_cons, List.length_nil, Option.some.injEq, exists_eq_left', exists_eq_left, true_and, and_true, if_true, if_false]
  refine ⟨a, dx, ["size", "base", "many", "lead"], [.int n, .int b, .int m, .int l], rfl, by decide, by decide, ?_⟩
  refine W_fld ?_
  simp only [Ep_ret, Ep_opt, Ep_bind, Ep_bad, Ep_ite, Ep_C, Ep_nil, Ep_no, Ep_some, Ep_yes, Ep_Vm, Ep_cons, Ep_bin, Ep_un, Ep_ix, Ep_B, Ep_BF, Ep_tup, Ep_lst, Ep_lstF, Ep_bOf, Ep_and, Ep_or, Ep_not, Ep_eAnd, Ep_eOr, Ep_eNot, Ep_eIf, Ep_sl, Ep_fz, Ep_call, Ep_meth, Ep_rng1, Ep_rng2, Ep_rng3, Ep_iA, Ep_mut, Wp_nx, Wp_pass, Wp_brk, Wp_cnt, Wp_retN, Wp_seq, nxt_nx, nxt_rt, nxt_bk, nxt_ct, Wp_asg, Wp_set, Wp_own, Wp_dat, Wp_dic, Wp_ret, Wp_expr, Wp_if, Wp_par, Wp_par3, Wp_aug, Wp_for, Wp_while, Wp_setIx, gN_some, List.getElem?_cons_zero, List.getElem?_cons_succ, List.set_cons_zero, List.set_cons_succ, List.length_cons, List.length_nil, Option.some.injEq, exists_eq_left', exists_eq_left, true_and, and_true, if_true, if_false]
  refine E_mapR n (fun x => .list ((List.range n).map fun y : Nat => .int (prodF b l x y m))) ?_ (by simp) rfl (by omega) (fun x hx => ?_) ?_
  · simp only [Ep_ret, Ep_opt, Ep_bind, Ep_bad, Ep_ite, Ep_C, Ep_nil, Ep_no, Ep_some, Ep_yes, Ep_Vm, Ep_cons, Ep_bin, Ep_un, Ep_ix, Ep_B, Ep_BF, Ep_tup, Ep_lst, Ep_lstF, Ep_bOf, Ep_and, Ep_or, Ep_not, Ep_eAnd, Ep_eOr, Ep_eNot, Ep_eIf, Ep_sl, Ep_fz, Ep_call, Ep_meth, Ep_rng1, Ep_rng2, Ep_rng3, Ep_iA, Ep_mut, Wp_nx, Wp_pass, Wp_brk, Wp_cnt, Wp_retN, Wp_seq, nxt_nx, nxt_rt, nxt_bk, nxt_ct, Wp_asg, Wp_set, Wp_own, Wp_dat, Wp_dic, Wp_ret, Wp_expr, Wp_if, Wp_par, Wp_par3, Wp_aug, Wp_for, Wp_while, Wp_setIx, gN_some, List.getElem?_cons_zero, List.getElem?_cons_succ, List.set_cons_zero, List.set_cons_succ, List.length_cons, List.length_nil, Option.some.injEq, exists_eq_left', exists_eq_left, true_and, and_true, if_true, if_false, rng1_ok (n := n) (by omega), and_self]
  · simp only [Ep_ret, Ep_opt, Ep_bind, Ep_bad, Ep_ite, Ep_C, Ep_nil, Ep_no, Ep_some, Ep_yes, Ep_Vm, Ep_cons, Ep_bin, Ep_un, Ep_ix, Ep_B, Ep_BF, Ep_tup, Ep_lst, Ep_lstF, Ep_bOf, Ep_and, Ep_or, Ep_not, Ep_eAnd, Ep_eOr, Ep_eNot, Ep_eIf, Ep_sl, Ep_fz, Ep_call, Ep_meth, Ep_rng1, Ep_rng2, Ep_rng3, Ep_iA, Ep_mut, Wp_nx, Wp_pass, Wp_brk, Wp_cnt, Wp_retN, Wp_seq, nxt_nx, nxt_rt, nxt_bk, nxt_ct, Wp_asg, Wp_set, Wp_own, Wp_dat, Wp_dic, Wp_ret, Wp_expr, Wp_if, Wp_par, Wp_par3, Wp_aug, Wp_for, Wp_while, Wp_setIx, gN_some, List.getElem?_cons_zero, List.getElem?_cons_succ, List.set_cons_zero, List.set_cons_succ, List.length_cons, List.length_nil, Option.some.injEq, exists_eq_left', exists_eq_left, true_and, and_true, if_true, if_false]
    refine E_mapR n (fun y => .int (prodF b l x y m)) ?_ (by simp) rfl (by omega) (fun y hy => ?_) ?_
    · simp only [Ep_ret, Ep_opt, Ep_bind, Ep_bad, Ep_ite, Ep_C, Ep_nil, Ep_no, Ep_some, Ep_yes, Ep_Vm, Ep_cons, Ep_bin, Ep_un, Ep_ix, Ep_B, Ep_BF, Ep_tup, Ep_lst, Ep_lstF, Ep_bOf, Ep_and, Ep_or, Ep_not, Ep_eAnd, Ep_eOr, Ep_eNot, Ep_eIf, Ep_sl, Ep_fz, Ep_call, Ep_meth, Ep_rng1, Ep_rng2, Ep_rng3, Ep_iA, Ep_mut, Wp_nx, Wp_pass, Wp_brk, Wp_cnt, Wp_retN, Wp_seq, nxt_nx, nxt_rt, nxt_bk, nxt_ct, Wp_asg, Wp_set, Wp_own, Wp_dat, Wp_dic, Wp_ret, Wp_expr, Wp_if, Wp_par, Wp_par3, Wp_aug, Wp_for, Wp_while, Wp_setIx, gN_some, List.getElem?_cons_zero, List.getElem?_cons_succ, List.set_cons_zero, List.set_cons_succ, List.length_cons, List.length_nil, Option.some.injEq, exists_eq_left', exists_eq_left, true_and, and_true, if_true, if_false, rng1_ok (n := n) (by omega), and_self]
    · refine E_methO rfl (by decide) ?_
      simp only [Ep_ret, Ep_opt, Ep_bind, Ep_bad, Ep_ite, Ep_C, Ep_nil, Ep_no, Ep_some, Ep_yes, Ep_Vm, Ep_cons, Ep_bin, Ep_un, Ep_ix, Ep_B, Ep_BF, Ep_tup, Ep_lst, Ep_lstF, Ep_bOf, Ep_and, Ep_or, Ep_not, Ep_eAnd, Ep_eOr, Ep_eNot, Ep_eIf, Ep_sl, Ep_fz, Ep_call, Ep_meth, Ep_rng1, Ep_rng2, Ep_rng3, Ep_iA, Ep_mut, Wp_nx, Wp_pass, Wp_brk, Wp_cnt, Wp_retN, Wp_seq, nxt_nx, nxt_rt, nxt_bk, nxt_ct, Wp_asg, Wp_set, Wp_own, Wp_dat, Wp_dic, Wp_ret, Wp_expr, Wp_if, Wp_par, Wp_par3, Wp_aug, Wp_for, Wp_while, Wp_setIx, gN_some, List.getElem?_cons_zero, List.getElem?_cons_succ, List.set_cons_zero, List.set_cons_succ, List.length_cons, List.length_nil, Option.some.injEq, exists_eq_left', exists_eq_left, true_and, and_true, if_true, if_false]
      have e := product_eq (s := n) (b := b) (l := l) (x := x) (y := y) (m := m) (ns := ["sums"]) (ds := [sumT b m n]) hb hb2 hm (by omega) (by omega) rfl
      exact ⟨_, e, rfl⟩
    · simp
  simp only [Ep_ret, Ep_opt, Ep_bind, Ep_bad, Ep_ite, Ep_C, Ep_nil, Ep_no, Ep_some, Ep_yes, Ep_Vm, Ep_cons, Ep_bin, Ep_un, Ep_ix, Ep_B, Ep_BF, Ep_tup, Ep_lst, Ep_lstF, Ep_bOf, Ep_and, Ep_or, Ep_not, Ep_eAnd, Ep_eOr, Ep_eNot, Ep_eIf, Ep_sl, Ep_fz, Ep_call, Ep_meth, Ep_rng1, Ep_rng2, Ep_rng3, Ep_iA, Ep_mut, Wp_nx, Wp_pass, Wp_brk, Wp_cnt, Wp_retN, Wp_seq, nxt_nx, nxt_rt, nxt_bk, nxt_ct, Wp_asg, Wp_set, Wp_own, Wp_dat, Wp_dic, Wp_ret, Wp_expr, Wp_if, Wp_par, Wp_par3, Wp_aug, Wp_for, Wp_while, Wp_setIx, gN_some, List.getElem?_cons_zero, List.getElem?_cons_succ, List.set_cons_zero, List.set_cons_succ, List.length_cons, List.length_nil, Option.some.injEq, exists_eq_left', exists_eq_left, true_and, and_true, if_true, if_false]
  refine ⟨a, dx, ["size", "base", "many", "lead", "sums"], [.int n, .int b, .int m, .int l, sumT b m n], rfl, by decide, by decide, ?_⟩
  exact ⟨_, rfl⟩
/-! ### the ten sizes -/
def leadOf (n : Nat) : Nat × Nat × Nat := match n with
  | 4 => (2, 2, 3)
  | 8 => (2, 3, 3)
  | 9 => (3, 2, 2)
  | 16 => (2, 4, 3)
  | n => (n, 1, 0)
def sizesN : List Nat := [2, 3, 4, 5, 7, 8, 9, 11, 13, 16]
def addT (n : Nat) (x y : Int) : Int := sumF (leadOf n).1 (leadOf n).2.1 x y
def mulT (n : Nat) (x y : Int) : Int := prodF (leadOf n).1 (leadOf n).2.2 x y (leadOf n).2.1
def fieldDs (n : Nat) : List D := fDs n (leadOf n).1 (leadOf n).2.2 (leadOf n).2.1
def fieldD (n : Nat) : D := obD "Field" fNs (fieldDs n)
theorem init_size : ∀ n ∈ sizesN, ∀ a dx : Addr, f_Field_init a dx [.int n] = some (fNs, fieldDs n) := by
  intro n hn a dx
  have hn2 : n = 2 ∨ n = 3 ∨ n = 4 ∨ n = 5 ∨ n = 7 ∨ n = 8 ∨ n = 9 ∨ n = 11 ∨ n = 13 ∨ n = 16 := by simpa [sizesN] using hn
  rcases hn2 with rfl | rfl | rfl | rfl | rfl | rfl | rfl | rfl | rfl | rfl <;> exact Field_init_eq (by decide) (by decide) (by decide) (by decide) (by decide) rfl
theorem mk_Field_ok : ∀ a dx ds r, mk_Field ds = some r → f_Field_init a dx ds = some r := by
  intro a dx ds r h
  unfold mk_Field at h
  split at h
  rotate_left
  · cases h
  rename_i n
  split at h
  rotate_left
  · cases h
  rename_i hn
  have hn2 : n = 2 ∨ n = 3 ∨ n = 4 ∨ n = 5 ∨ n = 7 ∨ n = 8 ∨ n = 9 ∨ n = 11 ∨ n = 13 ∨ n = 16 := by simpa [sizesOk] using hn
  obtain ⟨k, hk, rfl⟩ : ∃ k : Nat, k ∈ sizesN ∧ n = k := by
    refine ⟨n.toNat, ?_, by omega⟩
    have : n.toNat = 2 ∨ n.toNat = 3 ∨ n.toNat = 4 ∨ n.toNat = 5 ∨ n.toNat = 7 ∨ n.toNat = 8 ∨ n.toNat = 9 ∨ n.toNat = 11 ∨ n.toNat = 13 ∨ n.toNat = 16 := by omega
    simpa [sizesN] using this
  rw [init_size k hk] at h ⊢
  exact h
theorem mk_size {n : Nat} (hn : n ∈ sizesN) : mk_Field [.int n] = some (fNs, fieldDs n) := by
  have hs : sizesOk.contains (n : Int) = true := by
    have hn2 : n = 2 ∨ n = 3 ∨ n = 4 ∨ n = 5 ∨ n = 7 ∨ n = 8 ∨ n = 9 ∨ n = 11 ∨ n = 13 ∨ n = 16 := by simpa [sizesN] using hn
    rcases hn2 with rfl | rfl | rfl | rfl | rfl | rfl | rfl | rfl | rfl | rfl <;> decide
  unfold mk_Field
  simp only [hs, if_true]
  exact init_size n hn 0 1
end FW

namespace FW
open PySem PySem.Spec L2
open PyProof.Rows hiding St
section
variable {P : Program} {w : World} {K : PySem.W.Frag} {mg : Str → Option Value} {base : Heap}

/-! ### is_whole -/
abbrev s_is_whole : Stmt := topS 3
theorem sc_is_whole : FnScope ["value", "low", "high"] ["value", "low", "high"] (defScope s_is_whole) := ⟨rfl, rfl, rfl, by decide +kernel, rfl, by decide +kernel, by decide +kernel⟩
def b_is_whole : SM :=
  sSeq (sRet (eAnd (eUn (isiD "int") (eV 0)) (eAnd (eNot (eUn (isiD "bool") (eV 0))) (eChain leD leD (eV 1) (eV 0) (eV 2))))) (sNx)
def f_is_whole : List D → Rs := runF 3 b_is_whole
theorem ok_is_whole {f : Addr} {fd : FuncData} (B : Blt mg) (F : Fun K "is_whole" "is_whole" s_is_whole f fd)  : FnOk P w K mg base CX0 1 f fd ["value", "low", "high"] (spD0 K 3 f_is_whole) := by
  refine ok_D0 (k := 0) (N := ["value", "low", "high"]) F sc_is_whole fun cdv A outer s H E hr => ?_
  have hu := hr.units
  have nd := sc_is_whole.nd
  exact (ds_cons (ds_ret (de_and (de_isi (de_v 0) B.isinstance B.int bt_int) (de_and (de_not (de_isi (de_v 0) B.isinstance B.bool bt_bool)) (de_one (de_chain od_le od_le (de_v 1) (de_v 0) (de_v 2)))))) ds_nil)
/-! ### is_size -/
abbrev s_is_size : Stmt := topS 4
theorem sc_is_size : FnScope ["value"] ["value"] (defScope s_is_size) := ⟨rfl, rfl, rfl, by decide +kernel, rfl, by decide +kernel, by decide +kernel⟩
def b_is_size : SM :=
  sSeq (sRet (eAnd (eUn (isiD "int") (eV 0)) (eAnd (eNot (eUn (isiD "bool") (eV 0))) (eBin inD (eV 0) (eC (.tuple c_SIZES)))))) (sNx)
def f_is_size : List D → Rs := runF 1 b_is_size
theorem ok_is_size {f : Addr} {fd : FuncData} (B : Blt mg) (F : Fun K "is_size" "is_size" s_is_size f fd) (g_SIZES : ∃ a, mg "SIZES" = some (.ref a) ∧ ∀ Z, Dp K Z (.ref a) (.tuple c_SIZES)) : FnOk P w K mg base CX0 1 f fd ["value"] (spD0 K 1 f_is_size) := by
  refine ok_D0 (k := 0) (N := ["value"]) F sc_is_size fun cdv A outer s H E hr => ?_
  have hu := hr.units
  have nd := sc_is_size.nd
  exact (ds_cons (ds_ret (de_and (de_isi (de_v 0) B.isinstance B.int bt_int) (de_and (de_not (de_isi (de_v 0) B.isinstance B.bool bt_bool)) (de_one (de_cmpK (ok_in hu) (de_v 0) g_SIZES (by rfl)))))) ds_nil)
/-! ### is_word -/
abbrev s_is_word : Stmt := topS 8
theorem sc_is_word : FnScope ["value", "size", "long", "number"] ["value", "size", "long"] (defScope s_is_word) := ⟨rfl, rfl, rfl, by decide +kernel, rfl, by decide +kernel, by decide +kernel⟩
def b_is_word : SM :=
  sSeq (sIf (bOr (bNot (bOf (eUn (isiD "tuple") (eV 0)))) (bOf (eBin neD (eB lenD (aCons (eV 0) (aNil))) (eV 2)))) (sSeq (sRet (eC (.bool false))) (sNx)) (sNx)) (sSeq (sRet (eB allD (aCons (eFz (eComp [3] (iA (eV 0)) (gN 3) (bYes) (eCall 3 (f_is_whole) (aCons (eV 3) (aCons (eC (.int 0)) (aCons (eBin subD (eV 1) (eC (.int 1))) (aNil))))))) (aNil)))) (sNx))
def f_is_word : List D → Rs := runF 4 b_is_word
theorem ok_is_word {f : Addr} {fd : FuncData} (B : Blt mg) (F : Fun K "is_word" "is_word" s_is_word f fd) (h_is_whole : Cal P w K mg base CX0 "is_whole" ["value", "low", "high"] 1 (spD0 K 3 (f_is_whole))) : FnOk P w K mg base CX0 2 f fd ["value", "size", "long"] (spD0 K 3 f_is_word) := by
  refine ok_D0 (k := 1) (N := ["value", "size", "long", "number"]) F sc_is_word fun cdv A outer s H E hr => ?_
  have hu := hr.units
  have nd := sc_is_word.nd
  exact (ds_cons (ds_if (dt_w (dw_or (dt_not (dt_val (de_isi (de_v 0) B.isinstance B.tuple bt_tuple))) (dw_or1 (dt_cmp (od_ne hu) (de_B cd_len (by rfl) B.len bt_len (da_cons (de_v 0) da_nil)) (dl_e (de_v 2)) (nomark _))))) (ds_cons (ds_ret de_bl) ds_nil) ds_nil) (ds_cons (ds_ret (de_B (cd_all rfl) (by rfl) B.all bt_all (da_cons (de_f (df_comp (own := [("number", 3)]) rfl nd (di_any (de_v 0)) (blkOk_by (by rfl)) (fun _ _ _ _ _ => (dg_name 3 nd rfl (by first | exact Or.inl rfl | exact Or.inr rfl))) (fun _ _ _ _ _ => dts_nil) (fun _ _ _ _ _ => (de_fn h_is_whole (hr.mono (by decide)) (da_cons (de_v 3) (da_cons de_int (da_cons (de_op od_sub (de_v 1) (dl_e de_int)) da_nil))))) (by decide))) da_nil))) ds_nil))
/-! ### weight -/
abbrev s_weight : Stmt := topS 9
theorem sc_weight : FnScope ["word", "number"] ["word"] (defScope s_weight) := ⟨rfl, rfl, rfl, by decide +kernel, rfl, by decide +kernel, by decide +kernel⟩
def b_weight : SM :=
  sSeq (sRet (eB lenD (aCons (eFz (eComp [1] (iA (eV 0)) (gN 1) (bOf (eBin neD (eV 1) (eC (.int 0)))) (eV 1))) (aNil)))) (sNx)
def f_weight : List D → Rs := runF 2 b_weight
theorem ok_weight {f : Addr} {fd : FuncData} (B : Blt mg) (F : Fun K "weight" "weight" s_weight f fd)  : FnOk P w K mg base CX0 1 f fd ["word"] (spD0 K 1 f_weight) := by
  refine ok_D0 (k := 0) (N := ["word", "number"]) F sc_weight fun cdv A outer s H E hr => ?_
  have hu := hr.units
  have nd := sc_weight.nd
  exact (ds_cons (ds_ret (de_B cd_len (by rfl) B.len bt_len (da_cons (de_f (df_comp (own := [("number", 1)]) rfl nd (di_any (de_v 0)) (blkOk_by (by rfl)) (fun _ _ _ _ _ => (dg_name 1 nd rfl (by first | exact Or.inl rfl | exact Or.inr rfl))) (fun _ _ _ _ _ => (dts_one (dt_cmp (od_ne hu) (de_v 1) (dl_e de_int) (nomark _)))) (fun _ _ _ _ _ => (de_v 1)) (by decide))) da_nil))) ds_nil)
/-! ### distance -/
abbrev s_distance : Stmt := topS 10
theorem sc_distance : FnScope ["one", "other", "k"] ["one", "other"] (defScope s_distance) := ⟨rfl, rfl, rfl, by decide +kernel, rfl, by decide +kernel, by decide +kernel⟩
def b_distance : SM :=
  sSeq (sRet (eB lenD (aCons (eFz (eComp [2] (iR1 (aCons (eB lenD (aCons (eV 0) (aNil))) (aNil))) (gN 2) (bOf (eBin neD (eIx (eV 0) (eV 2)) (eIx (eV 1) (eV 2)))) (eV 2))) (aNil)))) (sNx)
def f_distance : List D → Rs := runF 3 b_distance
theorem ok_distance {f : Addr} {fd : FuncData} (B : Blt mg) (F : Fun K "distance" "distance" s_distance f fd)  : FnOk P w K mg base CX0 1 f fd ["one", "other"] (spD0 K 2 f_distance) := by
  refine ok_D0 (k := 0) (N := ["one", "other", "k"]) F sc_distance fun cdv A outer s H E hr => ?_
  have hu := hr.units
  have nd := sc_distance.nd
  exact (ds_cons (ds_ret (de_B cd_len (by rfl) B.len bt_len (da_cons (de_f (df_comp (own := [("k", 2)]) rfl nd (di_range1 (by rfl) B.range (da_cons (de_B cd_len (by rfl) B.len bt_len (da_cons (de_v 0) da_nil)) da_nil)) (blkOk_by (by rfl)) (fun _ _ _ _ _ => (dg_name 2 nd rfl (by first | exact Or.inl rfl | exact Or.inr rfl))) (fun _ _ _ _ _ => (dts_one (dt_cmp (od_ne hu) (de_ix hu (de_v 0) (de_v 2)) (dl_e (de_ix hu (de_v 1) (de_v 2))) (nomark _)))) (fun _ _ _ _ _ => (de_v 2)) (by decide))) da_nil))) ds_nil)
/-! ### support -/
abbrev s_support : Stmt := topS 11
theorem sc_support : FnScope ["word", "k"] ["word"] (defScope s_support) := ⟨rfl, rfl, rfl, by decide +kernel, rfl, by decide +kernel, by decide +kernel⟩
def b_support : SM :=
  sSeq (sRet (eB tupleD (aCons (eFz (eComp [1] (iR1 (aCons (eB lenD (aCons (eV 0) (aNil))) (aNil))) (gN 1) (bOf (eBin neD (eIx (eV 0) (eV 1)) (eC (.int 0)))) (eV 1))) (aNil)))) (sNx)
def f_support : List D → Rs := runF 2 b_support
theorem ok_support {f : Addr} {fd : FuncData} (B : Blt mg) (F : Fun K "support" "support" s_support f fd)  : FnOk P w K mg base CX0 1 f fd ["word"] (spD0 K 1 f_support) := by
  refine ok_D0 (k := 0) (N := ["word", "k"]) F sc_support fun cdv A outer s H E hr => ?_
  have hu := hr.units
  have nd := sc_support.nd
  exact (ds_cons (ds_ret (de_Ty cd_tuple (by rfl) B.tuple bt_tuple (da_cons (de_f (df_comp (own := [("k", 1)]) rfl nd (di_range1 (by rfl) B.range (da_cons (de_B cd_len (by rfl) B.len bt_len (da_cons (de_v 0) da_nil)) da_nil)) (blkOk_by (by rfl)) (fun _ _ _ _ _ => (dg_name 1 nd rfl (by first | exact Or.inl rfl | exact Or.inr rfl))) (fun _ _ _ _ _ => (dts_one (dt_cmp (od_ne hu) (de_ix hu (de_v 0) (de_v 1)) (dl_e de_int) (nomark _)))) (fun _ _ _ _ _ => (de_v 1)) (by decide))) da_nil))) ds_nil)
/-! ### _law_state -/
abbrev s__law_state : Stmt := topS 13
theorem sc__law_state : FnScope ["script", "cells", "cell"] ["script"] (defScope s__law_state) := ⟨rfl, rfl, rfl, by decide +kernel, rfl, by decide +kernel, by decide +kernel⟩
theorem ok__law_state {f : Addr} {fd : FuncData} (B : Blt mg) (F : Fun K "_law_state" "_law_state" s__law_state f fd) : FnOk P w K mg base CX0 1 f fd ["script"] (spSt K) := by
  refine F.ok (k := 0) sc__law_state (fun vs H Q E h => ?_) (fun cdv A outer s H vs Q E hr h => ?_)
  · obtain ⟨a, ns, rfl, _⟩ := h
    rfl
  · obtain ⟨a, ns, rfl, hS, hlen, q⟩ := h
    have hu := hr.units
    have nd := sc__law_state.nd
    have hrest : ∀ X : Cx, X = (cxOf CX0 P w K mg base ["script", "cells", "cell"] "_law_state" (defScope s__law_state) f cdv A outer s H E).nox → DSs X W0 (defBody s__law_state).tail stRest := fun X e => by
      subst e
      exact (ds_cons (ds_if (dt_cmp (od_eq hu) (de_B cd_len (by rfl) B.len bt_len (da_cons (de_v 1) da_nil)) (dl_e de_int) (nomark _)) (ds_cons (ds_set 1 nd (de_lst (da_cons de_int da_nil))) ds_nil) ds_nil)
        (ds_cons (ds_ret (de_lst (da_cons de_int (da_cons (de_v 1) da_nil)))) ds_nil))
    refine ⟨_, pss_cons (ps_setLc (own := [("cell", 2)]) (i := 1) rfl nd rfl rfl (sw_true rfl rfl rfl (by decide +kernel)) (pi_list (pe_slice sl_list (pv 0) po_none (po_some pe_int))) (blkOk_by (by rfl)) (fun _ _ _ _ _ => pg_name (i := 2) nd rfl (by first | exact Or.inl rfl | exact Or.inr rfl)) (fun _ _ _ _ _ => pts_nil)
      (fun _ _ _ _ _ => pe_callB call_abs (by rfl) B.abs bt_abs (pa_cons (pv 2) pa_nil))) (hrest _ rfl), ?_⟩
    exact state_all hS hlen q
/-! ### _law_take -/
abbrev s__law_take : Stmt := topS 14
theorem sc__law_take : FnScope ["state", "most", "cells", "at", "cell", "mixed"] ["state", "most"] (defScope s__law_take) := ⟨rfl, rfl, rfl, by decide +kernel, rfl, by decide +kernel, by decide +kernel⟩
abbrev f__law_take := takeW
theorem ok__law_take {f : Addr} {fd : FuncData} (B : Blt mg) (F : Fun K "_law_take" "_law_take" s__law_take f fd) : FnOk P w K mg base CX0 1 f fd ["state", "most"] (spW K 2 takeW) := by
  refine F.ok (k := 0) sc__law_take (fun vs H Q E h => ?_) (fun cdv A outer s H vs Q E hr h => ?_)
  · obtain ⟨a, k, ns, vs', ds, Z, F, rfl, hl, r, _⟩ := h
    rw [List.length_cons, r.length]
    exact hl
  · obtain ⟨a, k, ns, vs', ds, Z, F, rfl, hl, r, h, q⟩ := h
    have nd := sc__law_take.nd
    obtain ⟨b, e1, _, ha, hb⟩ := h.one
    have e1' : F = [a, b] := e1
    subst e1'
    obtain ⟨m, rfl⟩ := takeW_int (fun e => by rw [e] at q; exact q)
    cases r with | cons r1 r2 =>
    cases r1
    cases r2
    unfold takeW at q
    dsimp only at q
    rcases heq : takeL k ns m with _ | ⟨r1, k', ns'⟩
    · rw [heq] at q
      exact q.elim
    rw [heq] at q
    dsimp only at q
    · refine ⟨_, pss_cons (ps_if (pt_cmpR op_lt (pv 1) pe_int (nomark _)) (pss_one (ps_ret pe_int)) pss_nil)
        (pss_cons (ps_set (i := 2) nd rfl (.inl rfl) (pe_ix ix_list (pv 0) pe_int (fun _ _ => rfl)))
        (pss_cons (ps_set (i := 3) nd rfl (.inl rfl) (pe_op op_mod (pe_callTy call_int1 (by rfl) B.int bt_int (pa_cons (pe_ix ix_list (pv 0) pe_int (fun _ _ => rfl)) pa_nil)) (pe_callB call_len_seq (by rfl) B.len bt_len (pa_cons (pv 2) pa_nil))))
        (pss_cons (ps_set (i := 4) nd rfl (.inl rfl) (pe_ix ix_list (pv 2) (pv 3) (fun _ _ => rfl)))
        (pss_cons (ps_if (pt_cmpR op_ge (pv 4) pe_int (nomark _))
          (pss_cons (ps_asg (pe_op op_fdivW (pv 4) (pv 1)) (pg_sub (pv 2) (pv 3) set_list))
          (pss_one (ps_ret (pe_op op_mod (pe_callTy call_int1 (by rfl) B.int bt_int (pa_cons (pv 4) pa_nil)) (pv 1))))) pss_nil)
        (pss_cons (ps_asg (pe_op op_add (pe_ix ix_list (pv 0) pe_int (fun _ _ => rfl)) pe_int) (pg_sub (pv 0) pe_int set_list))
        (pss_cons (ps_set (i := 5) nd rfl (.inl rfl) (pe_op op_mod (pe_callTy call_int1 (by rfl) B.int bt_int (pa_cons (pe_op op_add (pe_op op_mul (pv 4) pe_int) (pe_op op_mul (pe_ix ix_list (pv 0) pe_int (fun _ _ => rfl)) pe_int)) pa_nil)) pe_int))
        (pss_cons (ps_set (i := 5) nd rfl (.inl rfl) (pe_op op_mod (pe_callTy call_int1 (by rfl) B.int bt_int (pa_cons (pe_op op_add (pe_op op_mul (pv 5) pe_int) (pe_op op_mul (pe_ix ix_list (pv 0) pe_int (fun _ _ => rfl)) pe_int)) pa_nil)) pe_int))
        (pss_one (ps_ret (pe_op op_mod (pe_callTy call_int1 (by rfl) B.int bt_int (pa_cons (pe_op op_fdiv (pv 5) pe_int) pa_nil)) (pv 1))))))))))), ?_⟩
      refine ⟨_, rfl, m, 2, rfl, rfl, _, rfl, ?_⟩
      unfold takeL at heq
      by_cases h2 : m < 2
      · rw [if_pos h2] at heq
        cases heq
        rw [decide_eq_true h2]
        refine iteT ?_
        exact q ⟨Z, H, [a, b]⟩ _ (Stp.refl _) h (.int 0)
      · rw [if_neg h2] at heq
        rw [decide_eq_false h2]
        refine iteF ?_
        · split at heq
          rotate_left
          · cases heq
          · rename_i hpos
            obtain ⟨cell, ec, heq⟩ := Option.bind_eq_some_iff.mp heq
            have hlp : (0 : Int) < ns.length := by omega
            refine ⟨.ref a, rfl, a, _, 1, .ref b, rfl, rfl, SqL.of ha, rfl, ?_⟩
            refine ⟨.ref a, rfl, a, _, 0, .int k, rfl, rfl, SqL.of ha, rfl, .inl ⟨k, rfl, ?_⟩⟩
            refine ⟨.ref b, rfl, b, _, rfl, .inl (SqL.of hb), k, (ns.length : Int), rfl, by rw [List.length_map], hlp, ?_⟩
            have am := Int.emod_nonneg k (show (ns.length : Int) ≠ 0 by omega)
            have eat : ((k % (ns.length : Int)).toNat : Int) = k % (ns.length : Int) := Int.toNat_of_nonneg am
            have egt : (ns.map V.int)[(k % (ns.length : Int)).toNat]? = some (.int cell) := by
              rw [List.getElem?_map, ec]
              rfl
            have hlt : (k % (ns.length : Int)).toNat < ns.length := by
              rcases Nat.lt_or_ge (k % (ns.length : Int)).toNat ns.length with z | z
              · exact z
              · rw [List.getElem?_eq_none z] at ec
                cases ec
            refine ⟨.ref b, rfl, _, rfl, b, _, _, .int cell, rfl, rfl, SqL.of hb, by rw [← eat]; exact atI_nat egt, ?_⟩
            refine ⟨_, rfl, cell, _, rfl, rfl, _, rfl, ?_⟩
            by_cases hc : 1000000000000000000 ≤ cell
            · rw [if_pos hc] at heq
              rw [decide_eq_true hc]
              refine iteT ?_
              split at heq
              · rename_i hm
                cases heq
                have hm0 : (0 : Int) < m := by omega
                refine ⟨_, rfl, _, rfl, cell, m, rfl, rfl, wide_div hm0 (b := 200) (by
                  obtain ⟨n, rfl⟩ := Int.eq_ofNat_of_zero_le (Int.le_of_lt hm0)
                  show n < 2 ^ 200
                  exact_mod_cast hm) (by decide) (by decide), ?_⟩
                refine ⟨.ref b, rfl, _, rfl, b, _, _, (k % (ns.length : Int)).toNat, rfl, rfl, hb, ?_, ?_⟩
                · rw [← eat, List.length_map]
                  unfold ixN
                  rw [if_pos (Int.natCast_nonneg _), if_pos (by omega)]
                · refine ⟨_, rfl, .inl ⟨cell, rfl, ?_⟩⟩
                  refine ⟨_, rfl, cell, m, rfl, rfl, hm0, ?_⟩
                  obtain ⟨st, hh⟩ := take_set1 (ns' := ns.set (k % (ns.length : Int)).toNat (cell / m)) h ha hb
                  rw [List.map_set] at st hh
                  exact q _ _ st hh (.int _)
              · cases heq
            · rw [if_neg hc] at heq
              rw [decide_eq_false hc]
              refine iteF ?_
              cases heq
              have hm0 : (0 : Int) < m := by omega
              refine ⟨.ref a, rfl, a, _, 0, .int k, rfl, rfl, SqL.of ha, rfl, k, 1, rfl, rfl, ?_⟩
              refine ⟨.ref a, rfl, a, _, 0, 0, rfl, rfl, ha, rfl, ?_⟩
              have ha' : (upd H a (.lst [.int (k + 1), .ref b])) a = some (.lst [.int (k + 1), .ref b]) := upd_same
              refine ⟨_, rfl, cell, 48271, rfl, rfl, .inr (by decide), ?_⟩
              refine ⟨.ref a, rfl, _, _, _, _, rfl, rfl, SqL.of ha', rfl, _, 69621, rfl, rfl, .inr (by decide), _, _, rfl, rfl, .inl ⟨_, rfl, _, 2147483647, rfl, rfl, (by decide : (0 : Int) < 2147483647), ?_⟩⟩
              refine ⟨_, rfl, _, 16807, rfl, rfl, .inr (by decide), ?_⟩
              refine ⟨.ref a, rfl, _, _, _, _, rfl, rfl, SqL.of ha', rfl, _, 7919, rfl, rfl, .inr (by decide), _, _, rfl, rfl, .inl ⟨_, rfl, _, 1000000007, rfl, rfl, (by decide : (0 : Int) < 1000000007), ?_⟩⟩
              refine ⟨_, rfl, _, 7, rfl, rfl, ⟨(by decide : (0 : Int) < 7), (by decide : (7 : Int) < 1073741824)⟩, .inl ⟨_, rfl, _, rfl, _, m, rfl, rfl, hm0, ?_⟩⟩
              obtain ⟨st, hh⟩ := take_set0 (k' := k + 1) h ha hb
              exact q _ _ st hh (.int _)
/-! ### _law_pick -/
abbrev s__law_pick : Stmt := topS 15
theorem sc__law_pick : FnScope ["state", "row"] ["state", "row"] (defScope s__law_pick) := ⟨rfl, rfl, rfl, by decide +kernel, rfl, by decide +kernel, by decide +kernel⟩
def b__law_pick : SM :=
  sSeq (sRet (eIx (eV 1) (eCallW 0 2 f__law_take (aCons (eB lenD (aCons (eV 1) (aNil))) (aNil))))) (sNx)
def f__law_pick : Addr → Int → List Int → List D → Rw := runW 2 b__law_pick
theorem ok__law_pick {f : Addr} {fd : FuncData} (B : Blt mg) (F : Fun K "_law_pick" "_law_pick" s__law_pick f fd) (h__law_take : Cal P w K mg base CX0 "_law_take" ["state", "most"] 1 (spW K 2 f__law_take)) : FnOk P w K mg base CX0 2 f fd ["state", "row"] (spW K 2 f__law_pick) := by
  refine ok_W (k := 1) (N := ["state", "row"]) F sc__law_pick (by decide) fun cdv A outer s H E hr => ?_
  have hu := hr.units
  have nd := sc__law_pick.nd
  exact (ds_cons (ds_ret (de_ix hu (de_v 1) (de_fnW 0 h__law_take (hr.mono (by decide)) (da_cons (de_B cd_len (by rfl) B.len bt_len (da_cons (de_v 1) da_nil)) da_nil)))) ds_nil)
/-! ### _law_digits -/
abbrev s__law_digits : Stmt := topS 16
theorem sc__law_digits : FnScope ["number", "base", "many", "found", "turn"] ["number", "base", "many"] (defScope s__law_digits) := ⟨rfl, rfl, rfl, by decide +kernel, rfl, by decide +kernel, by decide +kernel⟩
def b__law_digits : SM :=
  sSeq (sOwn 3 (eBind (aNil) fun ds => if small ds.length then eRet ds else fun _ => .bad)) (sSeq (sFor (iR1 (aCons (eV 2) (aNil))) (gN 4) (sSeq (sExpr (eMut 3 appD (aCons (eBin modD (eB intD (aCons (eV 0) (aNil))) (eV 1)) (aNil)))) (sSeq (sSet 0 (eBin fdivD (eV 0) (eV 1))) (sNx)))) (sSeq (sRet (eV 3)) (sNx)))
def f__law_digits : List D → Rs := runF 5 b__law_digits
theorem ok__law_digits {f : Addr} {fd : FuncData} (B : Blt mg) (F : Fun K "_law_digits" "_law_digits" s__law_digits f fd)  : FnOk P w K mg base CX0 1 f fd ["number", "base", "many"] (spD0 K 3 f__law_digits) := by
  refine ok_D0 (k := 0) (N := ["number", "base", "many", "found", "turn"]) F sc__law_digits fun cdv A outer s H E hr => ?_
  have hu := hr.units
  have nd := sc__law_digits.nd
  exact (ds_cons (ds_own 3 nd (df_lst da_nil)) (ds_cons (ds_for PassesOwn.never rfl (di_range1 (by rfl) B.range (da_cons (de_v 2) da_nil)) (dg_name 4 nd rfl (by first | exact Or.inl rfl | exact Or.inr rfl)) (ds_cons (ds_expr (de_mut 3 md_append PySem.F.slot_list_append PySem.F.type_list_append (da_cons (de_op od_mod (de_Ty cd_int (by rfl) B.int bt_int (da_cons (de_v 0) da_nil)) (dl_e (de_v 1))) da_nil))) (ds_cons (ds_set 0 nd (de_op od_fdiv (de_v 0) (dl_e (de_v 1)))) ds_nil))) (ds_cons (ds_ret (de_v 3)) ds_nil)))
/-! ### _law_field -/
abbrev s__law_field : Stmt := topS 17
theorem sc__law_field : FnScope ["size", "base", "many", "lead", "sums", "products", "a", "first", "second", "b", "one", "other", "row", "i", "j", "k"] ["size"] (defScope s__law_field) := ⟨rfl, rfl, rfl, by decide +kernel, rfl, by decide +kernel, by decide +kernel⟩
def b__law_field : SM :=
  sSeq (sAsg (eGet2 (eDic (eFzM false (eDisp false [(eC (.int 4), eTup (aCons (eC (.int 2)) (aCons (eC (.int 2)) (aCons (eLst (aCons (eC (.int 1)) (aCons (eC (.int 1)) (aNil)))) (aNil))))), (eC (.int 8), eTup (aCons (eC (.int 2)) (aCons (eC (.int 3)) (aCons (eLst (aCons (eC (.int 1)) (aCons (eC (.int 1)) (aCons (eC (.int 0)) (aNil))))) (aNil))))), (eC (.int 9), eTup (aCons (eC (.int 3)) (aCons (eC (.int 2)) (aCons (eLst (aCons (eC (.int 2)) (aCons (eC (.int 0)) (aNil)))) (aNil))))), (eC (.int 16), eTup (aCons (eC (.int 2)) (aCons (eC (.int 4)) (aCons (eLst (aCons (eC (.int 1)) (aCons (eC (.int 1)) (aCons (eC (.int 0)) (aCons (eC (.int 0)) (aNil)))))) (aNil)))))]))) (eV 0) (eTup (aCons (eV 0) (aCons (eC (.int 1)) (aCons (eLst (aCons (eC (.int 0)) (aNil))) (aNil)))))) (gT (gsCons (gN 1) (gsCons (gN 2) (gsCons (gN 3) (gsNil)))) 3)) (sSeq (sParK 4 5 (vO (eBind (aNil) fun ds => if small ds.length then eRet ds else fun _ => .bad)) (vO (eBind (aNil) fun ds => if small ds.length then eRet ds else fun _ => .bad))) (sSeq (sFor (iR1 (aCons (eV 0) (aNil))) (gN 6) (sSeq (sParK 7 8 (vO (eBind (aNil) fun ds => if small ds.length then eRet ds else fun _ => .bad)) (vO (eBind (aNil) fun ds => if small ds.length then eRet ds else fun _ => .bad))) (sSeq (sFor (iR1 (aCons (eV 0) (aNil))) (gN 9) (sSeq (sAsg (eTup (aCons (eCall 3 (f__law_digits) (aCons (eV 6) (aCons (eV 1) (aCons (eV 2) (aNil))))) (aCons (eCall 3 (f__law_digits) (aCons (eV 9) (aCons (eV 1) (aCons (eV 2) (aNil))))) (aNil)))) (gT (gsCons (gN 10) (gsCons (gN 11) (gsNil))) 2)) (sSeq (sExpr (eMut 7 appD (aCons (eB sumD (aCons (eFz (eComp [15] (iR1 (aCons (eV 2) (aNil))) (gN 15) (bYes) (eBin mulD (eBin modD (eB intD (aCons (eBin addD (eIx (eV 10) (eV 15)) (eIx (eV 11) (eV 15))) (aNil))) (eV 1)) (eIx (eLst (aCons (eC (.int 1)) (aCons (eV 1) (aCons (eBin mulD (eV 1) (eV 1)) (aCons (eBin mulD (eBin mulD (eV 1) (eV 1)) (eV 1)) (aNil)))))) (eV 15))))) (aNil))) (aNil)))) (sSeq (sOwn 12 (eBinF repF (eLst (aCons (eC (.int 0)) (aNil))) (eBin subD (eBin mulD (eC (.int 2)) (eV 2)) (eC (.int 1))))) (sSeq (sFor (iR1 (aCons (eV 2) (aNil))) (gN 13) (sSeq (sFor (iR1 (aCons (eV 2) (aNil))) (gN 14) (sSeq (sSetIx 12 (eBin addD (eIxO 12 (eBin addD (eV 13) (eV 14))) (eBin mulD (eIx (eV 10) (eV 13)) (eIx (eV 11) (eV 14)))) (eBin addD (eV 13) (eV 14))) (sNx))) (sNx))) (sSeq (sFor (iA (eUn revD (eFz (eLr2 (eV 2) (eBin subD (eBin mulD (eC (.int 2)) (eV 2)) (eC (.int 1))))))) (gN 15) (sSeq (sFor (iR1 (aCons (eV 2) (aNil))) (gN 14) (sSeq (sSetIx 12 (eBin addD (eIxO 12 (eBin addD (eBin subD (eV 15) (eV 2)) (eV 14))) (eBin mulD (eIxO 12 (eV 15)) (eIx (eV 3) (eV 14)))) (eBin addD (eBin subD (eV 15) (eV 2)) (eV 14))) (sNx))) (sNx))) (sSeq (sExpr (eMut 8 appD (aCons (eB sumD (aCons (eFz (eComp [15] (iR1 (aCons (eV 2) (aNil))) (gN 15) (bYes) (eBin mulD (eBin modD (eB intD (aCons (eIxO 12 (eV 15)) (aNil))) (eV 1)) (eIx (eLst (aCons (eC (.int 1)) (aCons (eV 1) (aCons (eBin mulD (eV 1) (eV 1)) (aCons (eBin mulD (eBin mulD (eV 1) (eV 1)) (eV 1)) (aNil)))))) (eV 15))))) (aNil))) (aNil)))) (sNx)))))))) (sSeq (sExpr (eMut 4 appD (aCons (eV 7) (aNil)))) (sSeq (sExpr (eMut 5 appD (aCons (eV 8) (aNil)))) (sNx)))))) (sSeq (sRet (eTup (aCons (eV 4) (aCons (eV 5) (aNil))))) (sNx))))
def f__law_field : List D → Rs := runF 16 b__law_field
theorem ok__law_field {f : Addr} {fd : FuncData} (B : Blt mg) (F : Fun K "_law_field" "_law_field" s__law_field f fd) (h__law_digits : Cal P w K mg base CX0 "_law_digits" ["number", "base", "many"] 1 (spD0 K 3 (f__law_digits))) : FnOk P w K mg base CX0 2 f fd ["size"] (spD0 K 1 f__law_field) := by
  refine ok_D0 (k := 1) (N := ["size", "base", "many", "lead", "sums", "products", "a", "first", "second", "b", "one", "other", "row", "i", "j", "k"]) F sc__law_field fun cdv A outer s H E hr => ?_
  have hu := hr.units
  have nd := sc__law_field.nd
  exact (ds_cons (ds_asg (de_get2 hu (de_m (t := false) (dm_disp hu (DPr.cons de_int (de_tup (da_cons de_int (da_cons de_int (da_cons (de_lst (da_cons de_int (da_cons de_int da_nil))) da_nil)))) (DPr.cons de_int (de_tup (da_cons de_int (da_cons de_int (da_cons (de_lst (da_cons de_int (da_cons de_int (da_cons de_int da_nil)))) da_nil)))) (DPr.cons de_int (de_tup (da_cons de_int (da_cons de_int (da_cons (de_lst (da_cons de_int (da_cons de_int da_nil))) da_nil)))) (DPr.cons de_int (de_tup (da_cons de_int (da_cons de_int (da_cons (de_lst (da_cons de_int (da_cons de_int (da_cons de_int (da_cons de_int da_nil))))) da_nil)))) DPr.nil)))))) (de_v 0) (de_tup (da_cons (de_v 0) (da_cons de_int (da_cons (de_lst (da_cons de_int da_nil)) da_nil))))) (dg_tup rfl (dgs_cons (dg_name 1 nd rfl (by first | exact Or.inl rfl | exact Or.inr rfl)) (dgs_cons (dg_name 2 nd rfl (by first | exact Or.inl rfl | exact Or.inr rfl)) (dgs_cons (dg_name 3 nd rfl (by first | exact Or.inl rfl | exact Or.inr rfl)) dgs_nil))))) (ds_cons (ds_parK 4 5 rfl nd (dk_o (df_lst da_nil)) (dk_o (df_lst da_nil)) (by decide)) (ds_cons (ds_for PassesOwn.never rfl (di_range1 (by rfl) B.range (da_cons (de_v 0) da_nil)) (dg_name 6 nd rfl (by first | exact Or.inl rfl | exact Or.inr rfl)) (ds_cons (ds_parK 7 8 rfl nd (dk_o (df_lst da_nil)) (dk_o (df_lst da_nil)) (by decide)) (ds_cons (ds_for PassesOwn.never rfl (di_range1 (by rfl) B.range (da_cons (de_v 0) da_nil)) (dg_name 9 nd rfl (by first | exact Or.inl rfl | exact Or.inr rfl)) (ds_cons (ds_asg (de_tup (da_cons (de_fn h__law_digits (hr.mono (by decide)) (da_cons (de_v 6) (da_cons (de_v 1) (da_cons (de_v 2) da_nil)))) (da_cons (de_fn h__law_digits (hr.mono (by decide)) (da_cons (de_v 9) (da_cons (de_v 1) (da_cons (de_v 2) da_nil)))) da_nil))) (dg_tup rfl (dgs_cons (dg_name 10 nd rfl (by first | exact Or.inl rfl | exact Or.inr rfl)) (dgs_cons (dg_name 11 nd rfl (by first | exact Or.inl rfl | exact Or.inr rfl)) dgs_nil)))) (ds_cons (ds_expr (de_mut 7 md_append PySem.F.slot_list_append PySem.F.type_list_append (da_cons (de_B (cd_sum rfl) (by rfl) B.sum bt_sum (da_cons (de_f (df_comp (own := [("k", 15)]) rfl nd (di_range1 (by rfl) B.range (da_cons (de_v 2) da_nil)) (blkOk_by (by rfl)) (fun _ _ _ _ _ => (dg_name 15 nd rfl (by first | exact Or.inl rfl | exact Or.inr rfl))) (fun _ _ _ _ _ => dts_nil) (fun _ _ _ _ _ => (de_op od_mul (de_op od_mod (de_Ty cd_int (by rfl) B.int bt_int (da_cons (de_op od_add (de_ix hu (de_v 10) (de_v 15)) (dl_e (de_ix hu (de_v 11) (de_v 15)))) da_nil)) (dl_e (de_v 1))) (dl_e (de_ix hu (de_lst (da_cons de_int (da_cons (de_v 1) (da_cons (de_op od_mul (de_v 1) (dl_e (de_v 1))) (da_cons (de_op od_mul (de_op od_mul (de_v 1) (dl_e (de_v 1))) (dl_e (de_v 1))) da_nil))))) (de_v 15))))) (by decide))) da_nil)) da_nil))) (ds_cons (ds_own 12 nd (df_rep (de_lst (da_cons de_int da_nil)) (dl_e (de_op od_sub (de_op od_mul de_int (dl_e (de_v 2))) (dl_e de_int))))) (ds_cons (ds_for PassesOwn.never rfl (di_range1 (by rfl) B.range (da_cons (de_v 2) da_nil)) (dg_name 13 nd rfl (by first | exact Or.inl rfl | exact Or.inr rfl)) (ds_cons (ds_for PassesOwn.never rfl (di_range1 (by rfl) B.range (da_cons (de_v 2) da_nil)) (dg_name 14 nd rfl (by first | exact Or.inl rfl | exact Or.inr rfl)) (ds_cons (ds_setIx hu 12 (de_op od_add (de_ixO hu 12 (de_op od_add (de_v 13) (dl_e (de_v 14)))) (dl_e (de_op od_mul (de_ix hu (de_v 10) (de_v 13)) (dl_e (de_ix hu (de_v 11) (de_v 14)))))) (de_op od_add (de_v 13) (dl_e (de_v 14)))) ds_nil)) ds_nil)) (ds_cons (ds_for PassesOwn.never rfl (di_any (de_revL (dl_e (de_f (df_lrng2 B.list B.range (de_v 2) (de_op od_sub (de_op od_mul de_int (dl_e (de_v 2))) (dl_e de_int))))))) (dg_name 15 nd rfl (by first | exact Or.inl rfl | exact Or.inr rfl)) (ds_cons (ds_for PassesOwn.never rfl (di_range1 (by rfl) B.range (da_cons (de_v 2) da_nil)) (dg_name 14 nd rfl (by first | exact Or.inl rfl | exact Or.inr rfl)) (ds_cons (ds_setIx hu 12 (de_op od_add (de_ixO hu 12 (de_op od_add (de_op od_sub (de_v 15) (dl_e (de_v 2))) (dl_e (de_v 14)))) (dl_e (de_op od_mul (de_ixO hu 12 (de_v 15)) (dl_e (de_ix hu (de_v 3) (de_v 14)))))) (de_op od_add (de_op od_sub (de_v 15) (dl_e (de_v 2))) (dl_e (de_v 14)))) ds_nil)) ds_nil)) (ds_cons (ds_expr (de_mut 8 md_append PySem.F.slot_list_append PySem.F.type_list_append (da_cons (de_B (cd_sum rfl) (by rfl) B.sum bt_sum (da_cons (de_f (df_comp (own := [("k", 15)]) rfl nd (di_range1 (by rfl) B.range (da_cons (de_v 2) da_nil)) (blkOk_by (by rfl)) (fun _ _ _ _ _ => (dg_name 15 nd rfl (by first | exact Or.inl rfl | exact Or.inr rfl))) (fun _ _ _ _ _ => dts_nil) (fun _ _ _ _ _ => (de_op od_mul (de_op od_mod (de_Ty cd_int (by rfl) B.int bt_int (da_cons (de_ixO hu 12 (de_v 15)) da_nil)) (dl_e (de_v 1))) (dl_e (de_ix hu (de_lst (da_cons de_int (da_cons (de_v 1) (da_cons (de_op od_mul (de_v 1) (dl_e (de_v 1))) (da_cons (de_op od_mul (de_op od_mul (de_v 1) (dl_e (de_v 1))) (dl_e (de_v 1))) da_nil))))) (de_v 15))))) (by decide))) da_nil)) da_nil))) ds_nil))))))) (ds_cons (ds_expr (de_mut 4 md_append PySem.F.slot_list_append PySem.F.type_list_append (da_cons (de_v 7) da_nil))) (ds_cons (ds_expr (de_mut 5 md_append PySem.F.slot_list_append PySem.F.type_list_append (da_cons (de_v 8) da_nil))) ds_nil))))) (ds_cons (ds_ret (de_tup (da_cons (de_v 4) (da_cons (de_v 5) da_nil)))) ds_nil))))
/-! ### _law_neg -/
abbrev s__law_neg : Stmt := topS 18
theorem sc__law_neg : FnScope ["field", "one"] ["field", "one"] (defScope s__law_neg) := ⟨rfl, rfl, rfl, by decide +kernel, rfl, by decide +kernel, by decide +kernel⟩
def b__law_neg : SM :=
  sSeq (sRet (eIdx (eIx (eIx (eV 0) (eC (.int 0))) (eV 1)) (eC (.int 0)))) (sNx)
def f__law_neg : List D → Rs := runF 2 b__law_neg
theorem ok__law_neg {f : Addr} {fd : FuncData} (B : Blt mg) (F : Fun K "_law_neg" "_law_neg" s__law_neg f fd)  : FnOk P w K mg base CX0 1 f fd ["field", "one"] (spD0 K 2 f__law_neg) := by
  refine ok_D0 (k := 0) (N := ["field", "one"]) F sc__law_neg fun cdv A outer s H E hr => ?_
  have hu := hr.units
  have nd := sc__law_neg.nd
  exact (ds_cons (ds_ret (de_index (de_ix hu (de_ix hu (de_v 0) de_int) (de_v 1)) de_int)) ds_nil)
/-! ### _law_dot -/
abbrev s__law_dot : Stmt := topS 19
theorem sc__law_dot : FnScope ["field", "one", "other", "found", "k"] ["field", "one", "other"] (defScope s__law_dot) := ⟨rfl, rfl, rfl, by decide +kernel, rfl, by decide +kernel, by decide +kernel⟩
def b__law_dot : SM :=
  sSeq (sSet 3 (eC (.int 0))) (sSeq (sFor (iR1 (aCons (eB lenD (aCons (eV 1) (aNil))) (aNil))) (gN 4) (sSeq (sSet 3 (eIx (eIx (eIx (eV 0) (eC (.int 0))) (eV 3)) (eIx (eIx (eIx (eV 0) (eC (.int 1))) (eIx (eV 1) (eV 4))) (eIx (eV 2) (eV 4))))) (sNx))) (sSeq (sRet (eV 3)) (sNx)))
def f__law_dot : List D → Rs := runF 5 b__law_dot
theorem ok__law_dot {f : Addr} {fd : FuncData} (B : Blt mg) (F : Fun K "_law_dot" "_law_dot" s__law_dot f fd)  : FnOk P w K mg base CX0 1 f fd ["field", "one", "other"] (spD0 K 3 f__law_dot) := by
  refine ok_D0 (k := 0) (N := ["field", "one", "other", "found", "k"]) F sc__law_dot fun cdv A outer s H E hr => ?_
  have hu := hr.units
  have nd := sc__law_dot.nd
  exact (ds_cons (ds_set 3 nd de_int) (ds_cons (ds_for PassesOwn.never rfl (di_range1 (by rfl) B.range (da_cons (de_B cd_len (by rfl) B.len bt_len (da_cons (de_v 1) da_nil)) da_nil)) (dg_name 4 nd rfl (by first | exact Or.inl rfl | exact Or.inr rfl)) (ds_cons (ds_set 3 nd (de_ix hu (de_ix hu (de_ix hu (de_v 0) de_int) (de_v 3)) (de_ix hu (de_ix hu (de_ix hu (de_v 0) de_int) (de_ix hu (de_v 1) (de_v 4))) (de_ix hu (de_v 2) (de_v 4))))) ds_nil)) (ds_cons (ds_ret (de_v 3)) ds_nil)))
/-! ### _law_mix -/
abbrev s__law_mix : Stmt := topS 20
theorem sc__law_mix : FnScope ["field", "rows", "factors", "wide", "found", "k", "j"] ["field", "rows", "factors", "wide"] (defScope s__law_mix) := ⟨rfl, rfl, rfl, by decide +kernel, rfl, by decide +kernel, by decide +kernel⟩
def b__law_mix : SM :=
  sSeq (sSet 4 (eBin mulD (eLst (aCons (eC (.int 0)) (aNil))) (eV 3))) (sSeq (sFor (iR1 (aCons (eB lenD (aCons (eV 1) (aNil))) (aNil))) (gN 5) (sSeq (sSet 4 (eFz (eComp [6] (iR1 (aCons (eV 3) (aNil))) (gN 6) (bYes) (eIx (eIx (eIx (eV 0) (eC (.int 0))) (eIx (eV 4) (eV 6))) (eIx (eIx (eIx (eV 0) (eC (.int 1))) (eIx (eV 2) (eV 5))) (eIx (eIx (eV 1) (eV 5)) (eV 6))))))) (sNx))) (sSeq (sRet (eB tupleD (aCons (eV 4) (aNil)))) (sNx)))
def f__law_mix : List D → Rs := runF 7 b__law_mix
theorem ok__law_mix {f : Addr} {fd : FuncData} (B : Blt mg) (F : Fun K "_law_mix" "_law_mix" s__law_mix f fd)  : FnOk P w K mg base CX0 1 f fd ["field", "rows", "factors", "wide"] (spD0 K 4 f__law_mix) := by
  refine ok_D0 (k := 0) (N := ["field", "rows", "factors", "wide", "found", "k", "j"]) F sc__law_mix fun cdv A outer s H E hr => ?_
  have hu := hr.units
  have nd := sc__law_mix.nd
  exact (ds_cons (ds_set 4 nd (de_op od_mul (de_lst (da_cons de_int da_nil)) (dl_e (de_v 3)))) (ds_cons (ds_for PassesOwn.never rfl (di_range1 (by rfl) B.range (da_cons (de_B cd_len (by rfl) B.len bt_len (da_cons (de_v 1) da_nil)) da_nil)) (dg_name 5 nd rfl (by first | exact Or.inl rfl | exact Or.inr rfl)) (ds_cons (ds_set 4 nd (de_f (df_comp (own := [("j", 6)]) rfl nd (di_range1 (by rfl) B.range (da_cons (de_v 3) da_nil)) (blkOk_by (by rfl)) (fun _ _ _ _ _ => (dg_name 6 nd rfl (by first | exact Or.inl rfl | exact Or.inr rfl))) (fun _ _ _ _ _ => dts_nil) (fun _ _ _ _ _ => (de_ix hu (de_ix hu (de_ix hu (de_v 0) de_int) (de_ix hu (de_v 4) (de_v 6))) (de_ix hu (de_ix hu (de_ix hu (de_v 0) de_int) (de_ix hu (de_v 2) (de_v 5))) (de_ix hu (de_ix hu (de_v 1) (de_v 5)) (de_v 6))))) (by decide)))) ds_nil)) (ds_cons (ds_ret (de_Ty cd_tuple (by rfl) B.tuple bt_tuple (da_cons (de_v 4) da_nil))) ds_nil)))
/-! ### _law_plain -/
abbrev s__law_plain : Stmt := topS 21
theorem sc__law_plain : FnScope ["field", "rows", "left", "found", "column", "ready", "lead", "back", "row", "k", "n", "j"] ["field", "rows"] (defScope s__law_plain) := ⟨rfl, rfl, rfl, by decide +kernel, rfl, by decide +kernel, by decide +kernel⟩
def b__law_plain : SM :=
  sSeq (sParK 2 3 (vO (eComp [8] (iA (eV 1)) (gN 8) (bYes) (eFz (eBF listD (aCons (eV 8) (aNil)))))) (vD (eLst (aNil)))) (sSeq (sFor (iR1 (aCons (eIf (bOf (eBin gtD (eBO lenD 2) (eC (.int 0)))) (eB lenD (aCons (eIxO 2 (eC (.int 0))) (aNil))) (eC (.int 0))) (aNil))) (gN 4) (sSeq (sDat 5 (eComp [9] (iR1 (aCons (eBO lenD 2) (aNil))) (gN 9) (bOf (eBin neD (eIx (eIxO 2 (eV 9)) (eV 4)) (eC (.int 0)))) (eV 9))) (sSeq (sIf (bOf (eBin gtD (eB lenD (aCons (eV 5) (aNil))) (eC (.int 0)))) (sSeq (sSet 6 (eMut 2 popAtD (aCons (eIx (eV 5) (eC (.int 0))) (aNil)))) (sSeq (sSet 7 (eIdx (eIx (eIx (eV 0) (eC (.int 1))) (eIx (eV 6) (eV 4))) (eC (.int 1)))) (sSeq (sSet 6 (eFz (eComp [10] (iA (eV 6)) (gN 10) (bYes) (eIx (eIx (eIx (eV 0) (eC (.int 1))) (eV 7)) (eV 10))))) (sSeq (sOwn 2 (eComp [8] (iA (eV 2)) (gN 8) (bYes) (eFz (eComp [11] (iR1 (aCons (eB lenD (aCons (eV 8) (aNil))) (aNil))) (gN 11) (bYes) (eIx (eIx (eIx (eV 0) (eC (.int 0))) (eIx (eV 8) (eV 11))) (eIx (eIx (eIx (eV 0) (eC (.int 1))) (eCall 2 (f__law_neg) (aCons (eV 0) (aCons (eIx (eV 8) (eV 4)) (aNil))))) (eIx (eV 6) (eV 11)))))))) (sSeq (sSet 3 (eBin addD (eFz (eComp [8] (iA (eV 3)) (gN 8) (bYes) (eFz (eComp [11] (iR1 (aCons (eB lenD (aCons (eV 8) (aNil))) (aNil))) (gN 11) (bYes) (eIx (eIx (eIx (eV 0) (eC (.int 0))) (eIx (eV 8) (eV 11))) (eIx (eIx (eIx (eV 0) (eC (.int 1))) (eCall 2 (f__law_neg) (aCons (eV 0) (aCons (eIx (eV 8) (eV 4)) (aNil))))) (eIx (eV 6) (eV 11)))))))) (eLst (aCons (eV 6) (aNil))))) (sNx)))))) (sNx)) (sNx)))) (sSeq (sRet (eB tupleD (aCons (eFz (eComp [8] (iA (eV 3)) (gN 8) (bYes) (eB tupleD (aCons (eV 8) (aNil))))) (aNil)))) (sNx)))
def f__law_plain : List D → Rs := runF 12 b__law_plain
theorem ok__law_plain {f : Addr} {fd : FuncData} (B : Blt mg) (F : Fun K "_law_plain" "_law_plain" s__law_plain f fd) (h__law_neg : Cal P w K mg base CX0 "_law_neg" ["field", "one"] 1 (spD0 K 2 (f__law_neg))) : FnOk P w K mg base CX0 2 f fd ["field", "rows"] (spD0 K 2 f__law_plain) := by
  refine ok_D0 (k := 1) (N := ["field", "rows", "left", "found", "column", "ready", "lead", "back", "row", "k", "n", "j"]) F sc__law_plain fun cdv A outer s H E hr => ?_
  have hu := hr.units
  have nd := sc__law_plain.nd
  exact (ds_cons (ds_asgK 2 3 rfl nd (dk_o (df_comp (own := [("row", 8)]) rfl nd (di_any (de_v 1)) (blkOk_by (by rfl)) (fun _ _ _ _ _ => (dg_name 8 nd rfl (by first | exact Or.inl rfl | exact Or.inr rfl))) (fun _ _ _ _ _ => dts_nil) (fun _ _ _ _ _ => (de_f (df_Ty cf_list (by rfl) B.list bt_list (da_cons (de_v 8) da_nil)))) (by decide))) (dk_d (de_lst da_nil))) (ds_cons (ds_for PassesOwn.never rfl (di_range1 (by rfl) B.range (da_cons (de_if (dt_cmp od_gt (de_BO 2 cd_len (by rfl) B.len bt_len) (dl_e de_int) (nomark _)) (de_B cd_len (by rfl) B.len bt_len (da_cons (de_ixO hu 2 de_int) da_nil)) de_int) da_nil)) (dg_name 4 nd rfl (by first | exact Or.inl rfl | exact Or.inr rfl)) (ds_cons (ds_datLc 5 (own := [("k", 9)]) rfl nd (di_range1 (by rfl) B.range (da_cons (de_BO 2 cd_len (by rfl) B.len bt_len) da_nil)) (blkOk_by (by rfl)) (fun _ _ _ _ _ => (dg_name 9 nd rfl (by first | exact Or.inl rfl | exact Or.inr rfl))) (fun _ _ _ _ _ => (dts_one (dt_cmp (od_ne hu) (de_ix hu (de_ixO hu 2 (de_v 9)) (de_v 4)) (dl_e de_int) (nomark _)))) (fun _ _ _ _ _ => (de_v 9)) (by decide) (sw_true rfl rfl rfl (by decide +kernel))) (ds_cons (ds_if (dt_cmp od_gt (de_B cd_len (by rfl) B.len bt_len (da_cons (de_v 5) da_nil)) (dl_e de_int) (nomark _)) (ds_cons (ds_set 6 nd (de_mut 2 md_popAt PySem.F.slot_list_pop PySem.F.type_list_pop (da_cons (de_ix hu (de_v 5) de_int) da_nil))) (ds_cons (ds_set 7 nd (de_index (de_ix hu (de_ix hu (de_v 0) de_int) (de_ix hu (de_v 6) (de_v 4))) de_int)) (ds_cons (ds_set 6 nd (de_f (df_comp (own := [("n", 10)]) rfl nd (di_any (de_v 6)) (blkOk_by (by rfl)) (fun _ _ _ _ _ => (dg_name 10 nd rfl (by first | exact Or.inl rfl | exact Or.inr rfl))) (fun _ _ _ _ _ => dts_nil) (fun _ _ _ _ _ => (de_ix hu (de_ix hu (de_ix hu (de_v 0) de_int) (de_v 7)) (de_v 10))) (by decide)))) (ds_cons (ds_own 2 nd (df_comp (own := [("row", 8)]) rfl nd (di_any (de_v 2)) (blkOk_by (by rfl)) (fun _ _ _ _ _ => (dg_name 8 nd rfl (by first | exact Or.inl rfl | exact Or.inr rfl))) (fun _ _ _ _ _ => dts_nil) (fun _ _ _ _ _ => (de_f (df_comp (own := [("j", 11)]) rfl nd (di_range1 (by rfl) B.range (da_cons (de_B cd_len (by rfl) B.len bt_len (da_cons (de_v 8) da_nil)) da_nil)) (blkOk_by (by rfl)) (fun _ _ _ _ _ => (dg_name 11 nd rfl (by first | exact Or.inl rfl | exact Or.inr rfl))) (fun _ _ _ _ _ => dts_nil) (fun _ _ _ _ _ => (de_ix hu (de_ix hu (de_ix hu (de_v 0) de_int) (de_ix hu (de_v 8) (de_v 11))) (de_ix hu (de_ix hu (de_ix hu (de_v 0) de_int) (de_fn h__law_neg (hr.mono (by decide)) (da_cons (de_v 0) (da_cons (de_ix hu (de_v 8) (de_v 4)) da_nil)))) (de_ix hu (de_v 6) (de_v 11))))) (by decide)))) (by decide))) (ds_cons (ds_set 3 nd (de_op od_add (de_f (df_comp (own := [("row", 8)]) rfl nd (di_any (de_v 3)) (blkOk_by (by rfl)) (fun _ _ _ _ _ => (dg_name 8 nd rfl (by first | exact Or.inl rfl | exact Or.inr rfl))) (fun _ _ _ _ _ => dts_nil) (fun _ _ _ _ _ => (de_f (df_comp (own := [("j", 11)]) rfl nd (di_range1 (by rfl) B.range (da_cons (de_B cd_len (by rfl) B.len bt_len (da_cons (de_v 8) da_nil)) da_nil)) (blkOk_by (by rfl)) (fun _ _ _ _ _ => (dg_name 11 nd rfl (by first | exact Or.inl rfl | exact Or.inr rfl))) (fun _ _ _ _ _ => dts_nil) (fun _ _ _ _ _ => (de_ix hu (de_ix hu (de_ix hu (de_v 0) de_int) (de_ix hu (de_v 8) (de_v 11))) (de_ix hu (de_ix hu (de_ix hu (de_v 0) de_int) (de_fn h__law_neg (hr.mono (by decide)) (da_cons (de_v 0) (da_cons (de_ix hu (de_v 8) (de_v 4)) da_nil)))) (de_ix hu (de_v 6) (de_v 11))))) (by decide)))) (by decide))) (dl_e (de_lst (da_cons (de_v 6) da_nil))))) ds_nil))))) ds_nil) ds_nil))) (ds_cons (ds_ret (de_Ty cd_tuple (by rfl) B.tuple bt_tuple (da_cons (de_f (df_comp (own := [("row", 8)]) rfl nd (di_any (de_v 3)) (blkOk_by (by rfl)) (fun _ _ _ _ _ => (dg_name 8 nd rfl (by first | exact Or.inl rfl | exact Or.inr rfl))) (fun _ _ _ _ _ => dts_nil) (fun _ _ _ _ _ => (de_Ty cd_tuple (by rfl) B.tuple bt_tuple (da_cons (de_v 8) da_nil))) (by decide))) da_nil))) ds_nil)))
/-! ### _law_power -/
abbrev s__law_power : Stmt := topS 22
theorem sc__law_power : FnScope ["field", "one", "number", "found", "turn"] ["field", "one", "number"] (defScope s__law_power) := ⟨rfl, rfl, rfl, by decide +kernel, rfl, by decide +kernel, by decide +kernel⟩
def b__law_power : SM :=
  sSeq (sSet 3 (eC (.int 1))) (sSeq (sFor (iR1 (aCons (eV 2) (aNil))) (gN 4) (sSeq (sSet 3 (eIx (eIx (eIx (eV 0) (eC (.int 1))) (eV 3)) (eV 1))) (sNx))) (sSeq (sRet (eV 3)) (sNx)))
def f__law_power : List D → Rs := runF 5 b__law_power
theorem ok__law_power {f : Addr} {fd : FuncData} (B : Blt mg) (F : Fun K "_law_power" "_law_power" s__law_power f fd)  : FnOk P w K mg base CX0 1 f fd ["field", "one", "number"] (spD0 K 3 f__law_power) := by
  refine ok_D0 (k := 0) (N := ["field", "one", "number", "found", "turn"]) F sc__law_power fun cdv A outer s H E hr => ?_
  have hu := hr.units
  have nd := sc__law_power.nd
  exact (ds_cons (ds_set 3 nd de_int) (ds_cons (ds_for PassesOwn.never rfl (di_range1 (by rfl) B.range (da_cons (de_v 2) da_nil)) (dg_name 4 nd rfl (by first | exact Or.inl rfl | exact Or.inr rfl)) (ds_cons (ds_set 3 nd (de_ix hu (de_ix hu (de_ix hu (de_v 0) de_int) (de_v 3)) (de_v 1))) ds_nil)) (ds_cons (ds_ret (de_v 3)) ds_nil)))
/-! ### Field_order -/
abbrev s_Field_order : Stmt := clsS (topS 7) 13
theorem sc_Field_order : FnScope ["self", "one", "found", "now"] ["self", "one"] (defScope s_Field_order) := ⟨rfl, rfl, rfl, by decide +kernel, rfl, by decide +kernel, by decide +kernel⟩
def b_Field_order : SM :=
  sSeq (sPar 2 3 (aCons (eC (.int 1)) (aCons (eV 1) (aNil)))) (sSeq (sWhile 1000000 (bOf (eBin neD (eV 3) (eC (.int 1)))) (sSeq (sPar 2 3 (aCons (eBin addD (eV 2) (eC (.int 1))) (aCons (eIx (eIx (eUn (fldD "Field" "products") (eV 0)) (eV 3)) (eV 1)) (aNil)))) (sNx))) (sSeq (sRet (eV 2)) (sNx)))
def f_Field_order : List D → Rs := runF 4 b_Field_order
theorem ok_Field_order {f : Addr} {fd : FuncData} (B : Blt mg) (F : Fun K "order" "Field.order" s_Field_order f fd) (c_Field : Cls K (He.ga K "Field")) (n_Field_products : NoAttr K (He.ga K "Field") "products") : FnOk P w K mg base CX0 1 f fd ["self", "one"] (spD0 K 2 f_Field_order) := by
  refine ok_D0 (k := 0) (N := ["self", "one", "found", "now"]) F sc_Field_order fun cdv A outer s H E hr => ?_
  have hu := hr.units
  have nd := sc_Field_order.nd
  exact (ds_cons (ds_par 2 3 rfl nd (da_cons de_int (da_cons (de_v 1) da_nil)) (by decide)) (ds_cons (ds_while 1000000 PassesOwn.never (dt_cmp (od_ne hu) (de_v 3) (dl_e de_int) (nomark _)) (ds_cons (ds_par 2 3 rfl nd (da_cons (de_op od_add (de_v 2) (dl_e de_int)) (da_cons (de_ix hu (de_ix hu (de_fld c_Field n_Field_products (de_v 0)) (de_v 3)) (de_v 1)) da_nil)) (by decide)) ds_nil)) (ds_cons (ds_ret (de_v 2)) ds_nil)))
/-! ### Field_generators -/
abbrev s_Field_generators : Stmt := clsS (topS 7) 14
theorem sc_Field_generators : FnScope ["self", "one"] ["self"] (defScope s_Field_generators) := ⟨rfl, rfl, rfl, by decide +kernel, rfl, by decide +kernel, by decide +kernel⟩
def b_Field_generators : SM :=
  sSeq (sRet (eFz (eComp [1] (iR2 (aCons (eC (.int 1)) (aCons (eUn (fldD "Field" "size") (eV 0)) (aNil)))) (gN 1) (bOf (eBin eqD (eMeth "Field" "order" 1 f_Field_order (eV 0) (aCons (eV 1) (aNil))) (eBin subD (eUn (fldD "Field" "size") (eV 0)) (eC (.int 1))))) (eV 1)))) (sNx)
def f_Field_generators : List D → Rs := runF 2 b_Field_generators
theorem ok_Field_generators {f : Addr} {fd : FuncData} (B : Blt mg) (F : Fun K "generators" "Field.generators" s_Field_generators f fd) (c_Field : Cls K (He.ga K "Field")) (n_Field_size : NoAttr K (He.ga K "Field") "size") (h_Field_order : CalM P w K mg base "Field" "order" ["self", "one"] 1 (spD0 K 2 f_Field_order)) : FnOk P w K mg base CX0 2 f fd ["self"] (spD0 K 1 f_Field_generators) := by
  refine ok_D0 (k := 1) (N := ["self", "one"]) F sc_Field_generators fun cdv A outer s H E hr => ?_
  have hu := hr.units
  have nd := sc_Field_generators.nd
  exact (ds_cons (ds_ret (de_f (df_comp (own := [("one", 1)]) rfl nd (di_range2 (by rfl) B.range (da_cons de_int (da_cons (de_fld c_Field n_Field_size (de_v 0)) da_nil))) (blkOk_by (by rfl)) (fun _ _ _ _ _ => (dg_name 1 nd rfl (by first | exact Or.inl rfl | exact Or.inr rfl))) (fun _ _ _ _ _ => (dts_one (dt_cmp (od_eq hu) (de_meth h_Field_order (hr.mono (by decide)) (de_v 0) (da_cons (de_v 1) da_nil)) (dl_e (de_op od_sub (de_fld c_Field n_Field_size (de_v 0)) (dl_e de_int))) (nomark _)))) (fun _ _ _ _ _ => (de_v 1)) (by decide)))) ds_nil)
/-! ### Field_times -/
abbrev s_Field_times : Stmt := clsS (topS 7) 5
theorem sc_Field_times : FnScope ["self", "one", "other"] ["self", "one", "other"] (defScope s_Field_times) := ⟨rfl, rfl, rfl, by decide +kernel, rfl, by decide +kernel, by decide +kernel⟩
def b_Field_times : SM :=
  sSeq (sRet (eIx (eIx (eUn (fldD "Field" "products") (eV 0)) (eV 1)) (eV 2))) (sNx)
def f_Field_times : List D → Rs := runF 3 b_Field_times
theorem ok_Field_times {f : Addr} {fd : FuncData} (B : Blt mg) (F : Fun K "times" "Field.times" s_Field_times f fd) (c_Field : Cls K (He.ga K "Field")) (n_Field_products : NoAttr K (He.ga K "Field") "products") : FnOk P w K mg base CX0 1 f fd ["self", "one", "other"] (spD0 K 3 f_Field_times) := by
  refine ok_D0 (k := 0) (N := ["self", "one", "other"]) F sc_Field_times fun cdv A outer s H E hr => ?_
  have hu := hr.units
  have nd := sc_Field_times.nd
  exact (ds_cons (ds_ret (de_ix hu (de_ix hu (de_fld c_Field n_Field_products (de_v 0)) (de_v 1)) (de_v 2))) ds_nil)
/-! ### Field_power -/
abbrev s_Field_power : Stmt := clsS (topS 7) 10
theorem sc_Field_power : FnScope ["self", "one", "number", "found", "digit"] ["self", "one", "number"] (defScope s_Field_power) := ⟨rfl, rfl, rfl, by decide +kernel, rfl, by decide +kernel, by decide +kernel⟩
def b_Field_power : SM :=
  sSeq (sSet 3 (eC (.int 1))) (sSeq (sFor (iA (eUn revD (eCall 3 (f_digits) (aCons (eV 2) (aCons (eC (.int 2)) (aCons (eUn bitsD (eV 2)) (aNil))))))) (gN 4) (sSeq (sSet 3 (eIx (eIx (eUn (fldD "Field" "products") (eV 0)) (eV 3)) (eV 3))) (sSeq (sIf (bOf (eBin eqD (eV 4) (eC (.int 1)))) (sSeq (sSet 3 (eIx (eIx (eUn (fldD "Field" "products") (eV 0)) (eV 3)) (eV 1))) (sNx)) (sNx)) (sNx)))) (sSeq (sRet (eV 3)) (sNx)))
def f_Field_power : List D → Rs := runF 5 b_Field_power
theorem ok_Field_power {f : Addr} {fd : FuncData} (B : Blt mg) (F : Fun K "power" "Field.power" s_Field_power f fd) (h_digits : Cal P w K mg base CX0 "digits" ["number", "base", "many"] 1 (spD0 K 3 (f_digits))) (c_Field : Cls K (He.ga K "Field")) (n_Field_products : NoAttr K (He.ga K "Field") "products") : FnOk P w K mg base CX0 2 f fd ["self", "one", "number"] (spD0 K 3 f_Field_power) := by
  refine ok_D0 (k := 1) (N := ["self", "one", "number", "found", "digit"]) F sc_Field_power fun cdv A outer s H E hr => ?_
  have hu := hr.units
  have nd := sc_Field_power.nd
  exact (ds_cons (ds_set 3 nd de_int) (ds_cons (ds_for PassesOwn.never rfl (di_any (de_revL (dl_e (de_fn h_digits (hr.mono (by decide)) (da_cons (de_v 2) (da_cons de_int (da_cons (de_bits (de_v 2)) da_nil))))))) (dg_name 4 nd rfl (by first | exact Or.inl rfl | exact Or.inr rfl)) (ds_cons (ds_set 3 nd (de_ix hu (de_ix hu (de_fld c_Field n_Field_products (de_v 0)) (de_v 3)) (de_v 3))) (ds_cons (ds_if (dt_cmp (od_eq hu) (de_v 4) (dl_e de_int) (nomark _)) (ds_cons (ds_set 3 nd (de_ix hu (de_ix hu (de_fld c_Field n_Field_products (de_v 0)) (de_v 3)) (de_v 1))) ds_nil) ds_nil) ds_nil))) (ds_cons (ds_ret (de_v 3)) ds_nil)))
/-! ### Field_total -/
abbrev s_Field_total : Stmt := clsS (topS 7) 11
theorem sc_Field_total : FnScope ["self", "row", "found", "one"] ["self", "row"] (defScope s_Field_total) := ⟨rfl, rfl, rfl, by decide +kernel, rfl, by decide +kernel, by decide +kernel⟩
def b_Field_total : SM :=
  sSeq (sSet 2 (eC (.int 0))) (sSeq (sFor (iA (eV 1)) (gN 3) (sSeq (sSet 2 (eIx (eIx (eUn (fldD "Field" "sums") (eV 0)) (eV 2)) (eV 3))) (sNx))) (sSeq (sRet (eV 2)) (sNx)))
def f_Field_total : List D → Rs := runF 4 b_Field_total
theorem ok_Field_total {f : Addr} {fd : FuncData} (B : Blt mg) (F : Fun K "total" "Field.total" s_Field_total f fd) (c_Field : Cls K (He.ga K "Field")) (n_Field_sums : NoAttr K (He.ga K "Field") "sums") : FnOk P w K mg base CX0 1 f fd ["self", "row"] (spD0 K 2 f_Field_total) := by
  refine ok_D0 (k := 0) (N := ["self", "row", "found", "one"]) F sc_Field_total fun cdv A outer s H E hr => ?_
  have hu := hr.units
  have nd := sc_Field_total.nd
  exact (ds_cons (ds_set 2 nd de_int) (ds_cons (ds_for PassesOwn.never rfl (di_any (de_v 1)) (dg_name 3 nd rfl (by first | exact Or.inl rfl | exact Or.inr rfl)) (ds_cons (ds_set 2 nd (de_ix hu (de_ix hu (de_fld c_Field n_Field_sums (de_v 0)) (de_v 2)) (de_v 3))) ds_nil)) (ds_cons (ds_ret (de_v 2)) ds_nil)))
/-! ### Field_dot -/
abbrev s_Field_dot : Stmt := clsS (topS 7) 12
theorem sc_Field_dot : FnScope ["self", "one", "other", "k"] ["self", "one", "other"] (defScope s_Field_dot) := ⟨rfl, rfl, rfl, by decide +kernel, rfl, by decide +kernel, by decide +kernel⟩
def b_Field_dot : SM :=
  sSeq (sRet (eMeth "Field" "total" 1 f_Field_total (eV 0) (aCons (eFz (eComp [3] (iR1 (aCons (eB lenD (aCons (eV 1) (aNil))) (aNil))) (gN 3) (bYes) (eIx (eIx (eUn (fldD "Field" "products") (eV 0)) (eIx (eV 1) (eV 3))) (eIx (eV 2) (eV 3))))) (aNil)))) (sNx)
def f_Field_dot : List D → Rs := runF 4 b_Field_dot
theorem ok_Field_dot {f : Addr} {fd : FuncData} (B : Blt mg) (F : Fun K "dot" "Field.dot" s_Field_dot f fd) (h_Field_total : CalM P w K mg base "Field" "total" ["self", "row"] 1 (spD0 K 2 f_Field_total)) (c_Field : Cls K (He.ga K "Field")) (n_Field_products : NoAttr K (He.ga K "Field") "products") : FnOk P w K mg base CX0 2 f fd ["self", "one", "other"] (spD0 K 3 f_Field_dot) := by
  refine ok_D0 (k := 1) (N := ["self", "one", "other", "k"]) F sc_Field_dot fun cdv A outer s H E hr => ?_
  have hu := hr.units
  have nd := sc_Field_dot.nd
  exact (ds_cons (ds_ret (de_meth h_Field_total (hr.mono (by decide)) (de_v 0) (da_cons (de_f (df_comp (own := [("k", 3)]) rfl nd (di_range1 (by rfl) B.range (da_cons (de_B cd_len (by rfl) B.len bt_len (da_cons (de_v 1) da_nil)) da_nil)) (blkOk_by (by rfl)) (fun _ _ _ _ _ => (dg_name 3 nd rfl (by first | exact Or.inl rfl | exact Or.inr rfl))) (fun _ _ _ _ _ => dts_nil) (fun _ _ _ _ _ => (de_ix hu (de_ix hu (de_fld c_Field n_Field_products (de_v 0)) (de_ix hu (de_v 1) (de_v 3))) (de_ix hu (de_v 2) (de_v 3)))) (by decide))) da_nil))) ds_nil)
/-! ### Field_negative -/
abbrev s_Field_negative : Stmt := clsS (topS 7) 6
theorem sc_Field_negative : FnScope ["self", "one"] ["self", "one"] (defScope s_Field_negative) := ⟨rfl, rfl, rfl, by decide +kernel, rfl, by decide +kernel, by decide +kernel⟩
def b_Field_negative : SM :=
  sSeq (sRet (eIdx (eIx (eUn (fldD "Field" "sums") (eV 0)) (eV 1)) (eC (.int 0)))) (sNx)
def f_Field_negative : List D → Rs := runF 2 b_Field_negative
theorem ok_Field_negative {f : Addr} {fd : FuncData} (B : Blt mg) (F : Fun K "negative" "Field.negative" s_Field_negative f fd) (c_Field : Cls K (He.ga K "Field")) (n_Field_sums : NoAttr K (He.ga K "Field") "sums") : FnOk P w K mg base CX0 1 f fd ["self", "one"] (spD0 K 2 f_Field_negative) := by
  refine ok_D0 (k := 0) (N := ["self", "one"]) F sc_Field_negative fun cdv A outer s H E hr => ?_
  have hu := hr.units
  have nd := sc_Field_negative.nd
  exact (ds_cons (ds_ret (de_index (de_ix hu (de_fld c_Field n_Field_sums (de_v 0)) (de_v 1)) de_int)) ds_nil)
/-! ### Field_minus -/
abbrev s_Field_minus : Stmt := clsS (topS 7) 7
theorem sc_Field_minus : FnScope ["self", "one", "other"] ["self", "one", "other"] (defScope s_Field_minus) := ⟨rfl, rfl, rfl, by decide +kernel, rfl, by decide +kernel, by decide +kernel⟩
def b_Field_minus : SM :=
  sSeq (sRet (eIx (eIx (eUn (fldD "Field" "sums") (eV 0)) (eV 1)) (eMeth "Field" "negative" 1 f_Field_negative (eV 0) (aCons (eV 2) (aNil))))) (sNx)
def f_Field_minus : List D → Rs := runF 3 b_Field_minus
theorem ok_Field_minus {f : Addr} {fd : FuncData} (B : Blt mg) (F : Fun K "minus" "Field.minus" s_Field_minus f fd) (h_Field_negative : CalM P w K mg base "Field" "negative" ["self", "one"] 1 (spD0 K 2 f_Field_negative)) (c_Field : Cls K (He.ga K "Field")) (n_Field_sums : NoAttr K (He.ga K "Field") "sums") : FnOk P w K mg base CX0 2 f fd ["self", "one", "other"] (spD0 K 3 f_Field_minus) := by
  refine ok_D0 (k := 1) (N := ["self", "one", "other"]) F sc_Field_minus fun cdv A outer s H E hr => ?_
  have hu := hr.units
  have nd := sc_Field_minus.nd
  exact (ds_cons (ds_ret (de_ix hu (de_ix hu (de_fld c_Field n_Field_sums (de_v 0)) (de_v 1)) (de_meth h_Field_negative (hr.mono (by decide)) (de_v 0) (da_cons (de_v 2) da_nil)))) ds_nil)
/-! ### Field_plus -/
abbrev s_Field_plus : Stmt := clsS (topS 7) 4
theorem sc_Field_plus : FnScope ["self", "one", "other"] ["self", "one", "other"] (defScope s_Field_plus) := ⟨rfl, rfl, rfl, by decide +kernel, rfl, by decide +kernel, by decide +kernel⟩
def b_Field_plus : SM :=
  sSeq (sRet (eIx (eIx (eUn (fldD "Field" "sums") (eV 0)) (eV 1)) (eV 2))) (sNx)
def f_Field_plus : List D → Rs := runF 3 b_Field_plus
theorem ok_Field_plus {f : Addr} {fd : FuncData} (B : Blt mg) (F : Fun K "plus" "Field.plus" s_Field_plus f fd) (c_Field : Cls K (He.ga K "Field")) (n_Field_sums : NoAttr K (He.ga K "Field") "sums") : FnOk P w K mg base CX0 1 f fd ["self", "one", "other"] (spD0 K 3 f_Field_plus) := by
  refine ok_D0 (k := 0) (N := ["self", "one", "other"]) F sc_Field_plus fun cdv A outer s H E hr => ?_
  have hu := hr.units
  have nd := sc_Field_plus.nd
  exact (ds_cons (ds_ret (de_ix hu (de_ix hu (de_fld c_Field n_Field_sums (de_v 0)) (de_v 1)) (de_v 2))) ds_nil)
/-! ### Field_inverse -/
abbrev s_Field_inverse : Stmt := clsS (topS 7) 8
theorem sc_Field_inverse : FnScope ["self", "one"] ["self", "one"] (defScope s_Field_inverse) := ⟨rfl, rfl, rfl, by decide +kernel, rfl, by decide +kernel, by decide +kernel⟩
def b_Field_inverse : SM :=
  sSeq (sRet (eIdx (eIx (eUn (fldD "Field" "products") (eV 0)) (eV 1)) (eC (.int 1)))) (sNx)
def f_Field_inverse : List D → Rs := runF 2 b_Field_inverse
theorem ok_Field_inverse {f : Addr} {fd : FuncData} (B : Blt mg) (F : Fun K "inverse" "Field.inverse" s_Field_inverse f fd) (c_Field : Cls K (He.ga K "Field")) (n_Field_products : NoAttr K (He.ga K "Field") "products") : FnOk P w K mg base CX0 1 f fd ["self", "one"] (spD0 K 2 f_Field_inverse) := by
  refine ok_D0 (k := 0) (N := ["self", "one"]) F sc_Field_inverse fun cdv A outer s H E hr => ?_
  have hu := hr.units
  have nd := sc_Field_inverse.nd
  exact (ds_cons (ds_ret (de_index (de_ix hu (de_fld c_Field n_Field_products (de_v 0)) (de_v 1)) de_int)) ds_nil)
/-! ### Field_log -/
abbrev s_Field_log : Stmt := clsS (topS 7) 15
theorem sc_Field_log : FnScope ["self", "base", "one", "found", "now"] ["self", "base", "one"] (defScope s_Field_log) := ⟨rfl, rfl, rfl, by decide +kernel, rfl, by decide +kernel, by decide +kernel⟩
def b_Field_log : SM :=
  sSeq (sAsg (eTup (aCons (eC (.int 0)) (aCons (eC (.int 1)) (aNil)))) (gT (gsCons (gN 3) (gsCons (gN 4) (gsNil))) 2)) (sSeq (sWhile 1000000 (bOf (eBin neD (eV 4) (eV 2))) (sSeq (sPar 3 4 (aCons (eBin addD (eV 3) (eC (.int 1))) (aCons (eIx (eIx (eUn (fldD "Field" "products") (eV 0)) (eV 4)) (eV 1)) (aNil)))) (sNx))) (sSeq (sRet (eV 3)) (sNx)))
def f_Field_log : List D → Rs := runF 5 b_Field_log
theorem ok_Field_log {f : Addr} {fd : FuncData} (B : Blt mg) (F : Fun K "log" "Field.log" s_Field_log f fd) (c_Field : Cls K (He.ga K "Field")) (n_Field_products : NoAttr K (He.ga K "Field") "products") : FnOk P w K mg base CX0 1 f fd ["self", "base", "one"] (spD0 K 3 f_Field_log) := by
  refine ok_D0 (k := 0) (N := ["self", "base", "one", "found", "now"]) F sc_Field_log fun cdv A outer s H E hr => ?_
  have hu := hr.units
  have nd := sc_Field_log.nd
  exact (ds_cons (ds_asg (de_tup (da_cons de_int (da_cons de_int da_nil))) (dg_tup rfl (dgs_cons (dg_name 3 nd rfl (by first | exact Or.inl rfl | exact Or.inr rfl)) (dgs_cons (dg_name 4 nd rfl (by first | exact Or.inl rfl | exact Or.inr rfl)) dgs_nil)))) (ds_cons (ds_while 1000000 PassesOwn.never (dt_cmp (od_ne hu) (de_v 4) (dl_e (de_v 2)) (nomark _)) (ds_cons (ds_par 3 4 rfl nd (da_cons (de_op od_add (de_v 3) (dl_e de_int)) (da_cons (de_ix hu (de_ix hu (de_fld c_Field n_Field_products (de_v 0)) (de_v 4)) (de_v 1)) da_nil)) (by decide)) ds_nil)) (ds_cons (ds_ret (de_v 3)) ds_nil)))
/-! ### Field_over -/
abbrev s_Field_over : Stmt := clsS (topS 7) 9
theorem sc_Field_over : FnScope ["self", "one", "other"] ["self", "one", "other"] (defScope s_Field_over) := ⟨rfl, rfl, rfl, by decide +kernel, rfl, by decide +kernel, by decide +kernel⟩
def b_Field_over : SM :=
  sSeq (sRet (eIx (eIx (eUn (fldD "Field" "products") (eV 0)) (eV 1)) (eMeth "Field" "inverse" 1 f_Field_inverse (eV 0) (aCons (eV 2) (aNil))))) (sNx)
def f_Field_over : List D → Rs := runF 3 b_Field_over
theorem ok_Field_over {f : Addr} {fd : FuncData} (B : Blt mg) (F : Fun K "over" "Field.over" s_Field_over f fd) (h_Field_inverse : CalM P w K mg base "Field" "inverse" ["self", "one"] 1 (spD0 K 2 f_Field_inverse)) (c_Field : Cls K (He.ga K "Field")) (n_Field_products : NoAttr K (He.ga K "Field") "products") : FnOk P w K mg base CX0 2 f fd ["self", "one", "other"] (spD0 K 3 f_Field_over) := by
  refine ok_D0 (k := 1) (N := ["self", "one", "other"]) F sc_Field_over fun cdv A outer s H E hr => ?_
  have hu := hr.units
  have nd := sc_Field_over.nd
  exact (ds_cons (ds_ret (de_ix hu (de_ix hu (de_fld c_Field n_Field_products (de_v 0)) (de_v 1)) (de_meth h_Field_inverse (hr.mono (by decide)) (de_v 0) (da_cons (de_v 2) da_nil)))) ds_nil)
/-! ### law -/
abbrev s_law : Stmt := topS 23
theorem sc_law : FnScope ["script", "state", "size", "field", "told", "a", "b", "c", "number", "orders", "base", "long", "one", "other", "whole", "each", "value", "good", "k", "n"] ["script"] (defScope s_law) := ⟨rfl, rfl, rfl, by decide +kernel, rfl, by decide +kernel, by decide +kernel⟩
def b_law : SM :=
  sSeq (sIf (bOf (eBin neD (eC (.tuple c_SIZES)) (eTup (aCons (eC (.int 2)) (aCons (eC (.int 3)) (aCons (eC (.int 4)) (aCons (eC (.int 5)) (aCons (eC (.int 7)) (aCons (eC (.int 8)) (aCons (eC (.int 9)) (aCons (eC (.int 11)) (aCons (eC (.int 13)) (aCons (eC (.int 16)) (aNil)))))))))))))) (sSeq (sRet (eC (.bool false))) (sNx)) (sNx)) (sSeq (sSet 2 (eCallW 1 2 f__law_pick (aCons (eFz (eRet (i_SIZES.map PyData.int))) (aNil)))) (sSeq (sAsg (eTup (aCons (eCall 1 (f__law_field) (aCons (eV 2) (aNil))) (aCons (eMake "Field" 1 mk_Field (aCons (eV 2) (aNil))) (aNil)))) (gT (gsCons (gN 3) (gsCons (gN 4) (gsNil))) 2)) (sSeq (sIf (bOf (eBin neD (eUn (fldD "Field" "size") (eV 4)) (eV 2))) (sSeq (sRet (eC (.bool false))) (sNx)) (sNx)) (sSeq (sFor (iR1 (aCons (eV 2) (aNil))) (gN 5) (sSeq (sIf (bOr (bOf (eBin neD (eFz (eComp [6] (iR1 (aCons (eV 2) (aNil))) (gN 6) (bYes) (eMeth "Field" "plus" 2 f_Field_plus (eV 4) (aCons (eV 5) (aCons (eV 6) (aNil)))))) (eIx (eIx (eV 3) (eC (.int 0))) (eV 5)))) (bOr (bOf (eBin neD (eFz (eComp [6] (iR1 (aCons (eV 2) (aNil))) (gN 6) (bYes) (eMeth "Field" "times" 2 f_Field_times (eV 4) (aCons (eV 5) (aCons (eV 6) (aNil)))))) (eIx (eIx (eV 3) (eC (.int 1))) (eV 5)))) (bOf (eBin neD (eMeth "Field" "negative" 1 f_Field_negative (eV 4) (aCons (eV 5) (aNil))) (eIdx (eIx (eIx (eV 3) (eC (.int 0))) (eV 5)) (eC (.int 0))))))) (sSeq (sRet (eC (.bool false))) (sNx)) (sNx)) (sSeq (sIf (bOf (eBin neD (eFz (eComp [6] (iR1 (aCons (eV 2) (aNil))) (gN 6) (bYes) (eMeth "Field" "minus" 2 f_Field_minus (eV 4) (aCons (eV 5) (aCons (eV 6) (aNil)))))) (eFz (eComp [6] (iR1 (aCons (eV 2) (aNil))) (gN 6) (bYes) (eIx (eIx (eIx (eV 3) (eC (.int 0))) (eV 5)) (eIdx (eIx (eIx (eV 3) (eC (.int 0))) (eV 6)) (eC (.int 0)))))))) (sSeq (sRet (eC (.bool false))) (sNx)) (sNx)) (sSeq (sIf (bAnd (bOf (eBin gtD (eV 5) (eC (.int 0)))) (bOr (bOf (eBin neD (eMeth "Field" "inverse" 1 f_Field_inverse (eV 4) (aCons (eV 5) (aNil))) (eIdx (eIx (eIx (eV 3) (eC (.int 1))) (eV 5)) (eC (.int 1))))) (bOf (eBin neD (eFz (eComp [6] (iR1 (aCons (eV 2) (aNil))) (gN 6) (bYes) (eMeth "Field" "over" 2 f_Field_over (eV 4) (aCons (eV 6) (aCons (eV 5) (aNil)))))) (eFz (eComp [6] (iR1 (aCons (eV 2) (aNil))) (gN 6) (bYes) (eIx (eIx (eIx (eV 3) (eC (.int 1))) (eV 6)) (eIdx (eIx (eIx (eV 3) (eC (.int 1))) (eV 5)) (eC (.int 1)))))))))) (sSeq (sRet (eC (.bool false))) (sNx)) (sNx)) (sNx))))) (sSeq (sAsg (eTup (aCons (eCallW 1 2 f__law_take (aCons (eV 2) (aNil))) (aCons (eCallW 1 2 f__law_take (aCons (eV 2) (aNil))) (aCons (eCallW 1 2 f__law_take (aCons (eV 2) (aNil))) (aNil))))) (gT (gsCons (gN 5) (gsCons (gN 6) (gsCons (gN 7) (gsNil)))) 3)) (sSeq (sIf (bOr (bOf (eBin neD (eIx (eIx (eIx (eV 3) (eC (.int 1))) (eV 5)) (eIx (eIx (eIx (eV 3) (eC (.int 0))) (eV 6)) (eV 7))) (eIx (eIx (eIx (eV 3) (eC (.int 0))) (eIx (eIx (eIx (eV 3) (eC (.int 1))) (eV 5)) (eV 6))) (eIx (eIx (eIx (eV 3) (eC (.int 1))) (eV 5)) (eV 7))))) (bOf (eBin neD (eMeth "Field" "times" 2 f_Field_times (eV 4) (aCons (eMeth "Field" "times" 2 f_Field_times (eV 4) (aCons (eV 5) (aCons (eV 6) (aNil)))) (aCons (eV 7) (aNil)))) (eMeth "Field" "times" 2 f_Field_times (eV 4) (aCons (eV 5) (aCons (eMeth "Field" "times" 2 f_Field_times (eV 4) (aCons (eV 6) (aCons (eV 7) (aNil)))) (aNil))))))) (sSeq (sRet (eC (.bool false))) (sNx)) (sNx)) (sSeq (sSet 8 (eCallW 1 2 f__law_take (aCons (eC (.int 40)) (aNil)))) (sSeq (sIf (bOr (bOf (eBin neD (eMeth "Field" "power" 2 f_Field_power (eV 4) (aCons (eV 5) (aCons (eV 8) (aNil)))) (eCall 3 (f__law_power) (aCons (eV 3) (aCons (eV 5) (aCons (eV 8) (aNil))))))) (bOr (bOf (eBin neD (eMeth "Field" "power" 2 f_Field_power (eV 4) (aCons (eC (.int 0)) (aCons (eC (.int 0)) (aNil)))) (eC (.int 1)))) (bAnd (bOf (eBin gtD (eV 5) (eC (.int 0)))) (bOf (eBin neD (eMeth "Field" "power" 2 f_Field_power (eV 4) (aCons (eV 5) (aCons (eBin subD (eV 2) (eC (.int 1))) (aNil)))) (eC (.int 1))))))) (sSeq (sRet (eC (.bool false))) (sNx)) (sNx)) (sSeq (sSet 9 (eFz (eComp [15] (iR2 (aCons (eC (.int 1)) (aCons (eV 2) (aNil)))) (gN 15) (bYes) (eIx (eFz (eComp [19] (iR2 (aCons (eC (.int 1)) (aCons (eV 2) (aNil)))) (gN 19) (bOf (eBin eqD (eCall 3 (f__law_power) (aCons (eV 3) (aCons (eV 15) (aCons (eV 19) (aNil))))) (eC (.int 1)))) (eV 19))) (eC (.int 0)))))) (sSeq (sIf (bOr (bOf (eBin neD (eFz (eComp [15] (iR2 (aCons (eC (.int 1)) (aCons (eV 2) (aNil)))) (gN 15) (bYes) (eMeth "Field" "order" 1 f_Field_order (eV 4) (aCons (eV 15) (aNil))))) (eV 9))) (bOf (eBin neD (eMeth "Field" "generators" 0 f_Field_generators (eV 4) aNil) (eFz (eComp [15] (iR2 (aCons (eC (.int 1)) (aCons (eV 2) (aNil)))) (gN 15) (bOf (eBin eqD (eIx (eV 9) (eBin subD (eV 15) (eC (.int 1)))) (eBin subD (eV 2) (eC (.int 1))))) (eV 15)))))) (sSeq (sRet (eC (.bool false))) (sNx)) (sNx)) (sSeq (sSet 10 (eCallW 1 2 f__law_pick (aCons (eMeth "Field" "generators" 0 f_Field_generators (eV 4) aNil) (aNil)))) (sSeq (sIf (bOr (bOf (eBin neD (eFz (eComp [15] (iR2 (aCons (eC (.int 1)) (aCons (eV 2) (aNil)))) (gN 15) (bYes) (eMeth "Field" "power" 2 f_Field_power (eV 4) (aCons (eV 10) (aCons (eMeth "Field" "log" 2 f_Field_log (eV 4) (aCons (eV 10) (aCons (eV 15) (aNil)))) (aNil)))))) (eFz (eLr2 (eC (.int 1)) (eV 2))))) (bOf (eBin neD (eFz (eBF sortedD (aCons (eFz (eComp [15] (iR2 (aCons (eC (.int 1)) (aCons (eV 2) (aNil)))) (gN 15) (bYes) (eMeth "Field" "log" 2 f_Field_log (eV 4) (aCons (eV 10) (aCons (eV 15) (aNil)))))) (aNil)))) (eFz (eLr1 (eBin subD (eV 2) (eC (.int 1)))))))) (sSeq (sRet (eC (.bool false))) (sNx)) (sNx)) (sSeq (sSet 11 (eCallW 1 2 f__law_take (aCons (eC (.int 7)) (aNil)))) (sSeq (sSet 12 (eB tupleD (aCons (eFz (eComp [18] (iR1 (aCons (eV 11) (aNil))) (gN 18) (bYes) (eCallW 1 2 f__law_take (aCons (eV 2) (aNil))))) (aNil)))) (sSeq (sSet 13 (eB tupleD (aCons (eFz (eComp [18] (iR1 (aCons (eV 11) (aNil))) (gN 18) (bYes) (eCallW 1 2 f__law_pick (aCons (eLst (aCons (eIx (eV 12) (eV 18)) (aCons (eCallW 1 2 f__law_take (aCons (eV 2) (aNil))) (aNil)))) (aNil))))) (aNil)))) (sSeq (sSet 14 (eC (.int 0))) (sSeq (sFor (iA (eV 12)) (gN 15) (sSeq (sSet 14 (eIx (eIx (eIx (eV 3) (eC (.int 0))) (eV 14)) (eV 15))) (sNx))) (sSeq (sIf (bOr (bOf (eBin neD (eMeth "Field" "total" 1 f_Field_total (eV 4) (aCons (eFz (eBF listD (aCons (eV 12) (aNil)))) (aNil))) (eV 14))) (bOf (eBin neD (eMeth "Field" "dot" 2 f_Field_dot (eV 4) (aCons (eV 12) (aCons (eV 13) (aNil)))) (eCall 3 (f__law_dot) (aCons (eV 3) (aCons (eV 12) (aCons (eV 13) (aNil)))))))) (sSeq (sRet (eC (.bool false))) (sNx)) (sNx)) (sSeq (sIf (bOr (bOf (eBin neD (eCall 1 (f_weight) (aCons (eV 12) (aNil))) (eB lenD (aCons (eFz (eComp [19] (iA (eV 12)) (gN 19) (bOf (eBin neD (eV 19) (eC (.int 0)))) (eV 19))) (aNil))))) (bOf (eBin neD (eCall 2 (f_distance) (aCons (eV 12) (aCons (eV 13) (aNil)))) (eB lenD (aCons (eFz (eComp [18] (iR1 (aCons (eV 11) (aNil))) (gN 18) (bOf (eBin neD (eIx (eV 12) (eV 18)) (eIx (eV 13) (eV 18)))) (eV 18))) (aNil)))))) (sSeq (sRet (eC (.bool false))) (sNx)) (sNx)) (sSeq (sIf (bOf (eBin neD (eCall 1 (f_support) (aCons (eV 12) (aNil))) (eB tupleD (aCons (eFz (eComp [18] (iR1 (aCons (eV 11) (aNil))) (gN 18) (bOf (eBin neD (eIx (eV 12) (eV 18)) (eC (.int 0)))) (eV 18))) (aNil))))) (sSeq (sRet (eC (.bool false))) (sNx)) (sNx)) (sSeq (sFor (iA (eLst (aCons (eV 12) (aCons (eFz (eBF listD (aCons (eV 12) (aNil)))) (aCons (eBin addD (eV 12) (eTup (aCons (eC (.int 0)) (aNil)))) (aCons (eSl (eV 12) (oSome (eC (.int 1))) (oNo)) (aCons (eC .none) (aCons (eBin addD (eSl (eV 12) (oNo) (oSome (eUn negD (eC (.int 1))))) (eTup (aCons (eV 2) (aNil)))) (aCons (eBin addD (eSl (eV 12) (oNo) (oSome (eUn negD (eC (.int 1))))) (eTup (aCons (eUn negD (eC (.int 1))) (aNil)))) (aCons (eBin addD (eSl (eV 12) (oNo) (oSome (eUn negD (eC (.int 1))))) (eTup (aCons (eC (.bool true)) (aNil)))) (aCons (eBin addD (eSl (eV 12) (oNo) (oSome (eUn negD (eC (.int 1))))) (eTup (aCons (eC .none) (aNil)))) (aNil)))))))))))) (gN 16) (sSeq (sSet 17 (eAnd (eUn (isiD "tuple") (eV 16)) (eAnd (eBin eqD (eB lenD (aCons (eV 16) (aNil))) (eV 11)) (eBin eqD (eB lenD (aCons (eFz (eComp [19] (iA (eV 16)) (gN 19) (bOr (bNot (bOf (eUn (isiD "int") (eV 19)))) (bOr (bOf (eUn (isiD "bool") (eV 19))) (bOr (bOf (eBin ltD (eV 19) (eC (.int 0)))) (bOf (eBin geD (eV 19) (eV 2)))))) (eV 19))) (aNil))) (eC (.int 0)))))) (sSeq (sIf (bOf (eBin neD (eCall 3 (f_is_word) (aCons (eV 16) (aCons (eV 2) (aCons (eV 11) (aNil))))) (eV 17))) (sSeq (sRet (eC (.bool false))) (sNx)) (sNx)) (sNx)))) (sSeq (sIf (bOf (eBin neD (eFz (eComp [16] (iA (eLst (aCons (eV 2) (aCons (eC (.int 6)) (aCons (eC (.int 10)) (aCons (eC (.int 1)) (aCons (eC (.int 0)) (aCons (eC (.int 17)) (aCons (eC (.bool true)) (aCons (eC .none) (aCons (eC (.str "2")) (aCons (eUn negD (eC (.int 2))) (aCons (eC (.int 12)) (aCons (eC (.int 14)) (aCons (eC (.int 15)) (aNil)))))))))))))))) (gN 16) (bYes) (eCall 1 (f_is_size) (aCons (eV 16) (aNil))))) (eBin addD (eLst (aCons (eC (.bool true)) (aNil))) (eBin mulD (eLst (aCons (eC (.bool false)) (aNil))) (eC (.int 12)))))) (sSeq (sRet (eC (.bool false))) (sNx)) (sNx)) (sSeq (sRet (eBin eqD (eLst (aCons (eCall 3 (f_is_whole) (aCons (eC (.int 3)) (aCons (eC (.int 0)) (aCons (eC (.int 3)) (aNil))))) (aCons (eCall 3 (f_is_whole) (aCons (eC (.int 4)) (aCons (eC (.int 0)) (aCons (eC (.int 3)) (aNil))))) (aCons (eCall 3 (f_is_whole) (aCons (eC (.bool true)) (aCons (eC (.int 0)) (aCons (eC (.int 3)) (aNil))))) (aCons (eCall 3 (f_is_whole) (aCons (eC (.str "1")) (aCons (eC (.int 0)) (aCons (eC (.int 3)) (aNil))))) (aNil)))))) (eLst (aCons (eC (.bool true)) (aCons (eC (.bool false)) (aCons (eC (.bool false)) (aCons (eC (.bool false)) (aNil)))))))) (sNx))))))))))))))))))))))))
theorem ok_law {f : Addr} {fd : FuncData} (B : Blt mg) (F : Fun K "law" "law" s_law f fd) (h__law_state : Cal P w K mg base CX0 "_law_state" ["script"] 1 (spSt K)) (h_is_whole : Cal P w K mg base CX0 "is_whole" ["value", "low", "high"] 1 (spD0 K 3 (f_is_whole))) (h_is_size : Cal P w K mg base CX0 "is_size" ["value"] 1 (spD0 K 1 (f_is_size))) (h_is_word : Cal P w K mg base CX0 "is_word" ["value", "size", "long"] 2 (spD0 K 3 (f_is_word))) (h_support : Cal P w K mg base CX0 "support" ["word"] 1 (spD0 K 1 (f_support))) (h_distance : Cal P w K mg base CX0 "distance" ["one", "other"] 1 (spD0 K 2 (f_distance))) (h_weight : Cal P w K mg base CX0 "weight" ["word"] 1 (spD0 K 1 (f_weight))) (h_Field_dot : CalM P w K mg base "Field" "dot" ["self", "one", "other"] 2 (spD0 K 3 f_Field_dot)) (h__law_dot : Cal P w K mg base CX0 "_law_dot" ["field", "one", "other"] 1 (spD0 K 3 (f__law_dot))) (h_Field_total : CalM P w K mg base "Field" "total" ["self", "row"] 1 (spD0 K 2 f_Field_total)) (h__law_pick : Cal P w K mg base CX0 "_law_pick" ["state", "row"] 2 (spW K 2 f__law_pick)) (h__law_take : Cal P w K mg base CX0 "_law_take" ["state", "most"] 1 (spW K 2 f__law_take)) (h_Field_log : CalM P w K mg base "Field" "log" ["self", "base", "one"] 1 (spD0 K 3 f_Field_log)) (h_Field_power : CalM P w K mg base "Field" "power" ["self", "one", "number"] 2 (spD0 K 3 f_Field_power)) (h_Field_generators : CalM P w K mg base "Field" "generators" ["self"] 2 (spD0 K 1 f_Field_generators)) (h_Field_order : CalM P w K mg base "Field" "order" ["self", "one"] 1 (spD0 K 2 f_Field_order)) (h__law_power : Cal P w K mg base CX0 "_law_power" ["field", "one", "number"] 1 (spD0 K 3 (f__law_power))) (h_Field_times : CalM P w K mg base "Field" "times" ["self", "one", "other"] 1 (spD0 K 3 f_Field_times)) (h_Field_over : CalM P w K mg base "Field" "over" ["self", "one", "other"] 2 (spD0 K 3 f_Field_over)) (h_Field_inverse : CalM P w K mg base "Field" "inverse" ["self", "one"] 1 (spD0 K 2 f_Field_inverse)) (h_Field_minus : CalM P w K mg base "Field" "minus" ["self", "one", "other"] 2 (spD0 K 3 f_Field_minus)) (h_Field_negative : CalM P w K mg base "Field" "negative" ["self", "one"] 1 (spD0 K 2 f_Field_negative)) (h_Field_plus : CalM P w K mg base "Field" "plus" ["self", "one", "other"] 1 (spD0 K 3 f_Field_plus)) (c_Field : Cls K (He.ga K "Field")) (n_Field_size : NoAttr K (He.ga K "Field") "size") (h_Field : CalI P w K mg base "Field" ["self", "size"] 4 (spI K "Field" 2 f_Field_init)) (h__law_field : Cal P w K mg base CX0 "_law_field" ["size"] 2 (spD0 K 1 (f__law_field))) (g_SIZES : ∃ a, mg "SIZES" = some (.ref a) ∧ ∀ Z, Dp K Z (.ref a) (.tuple c_SIZES)) (hp : ∀ a ms, DrawOk ms → ∃ S, b_law (.un :: .drw a 0 ms :: List.replicate 18 .un) = .rt (.bool true) S) : FnOk P w K mg base CX0 6 f fd ["script"] (spLaw K) := by
  refine F.ok (k := 5) sc_law (fun vs H Q E h => ?_) (fun cdv A outer s H vs Q E hr h => ?_)
  · obtain ⟨a, ns, rfl, _⟩ := h
    rfl
  · obtain ⟨a, ns, rfl, hS, hlen, q⟩ := h
    have hu := hr.units
    have nd := sc_law.nd
    have hrest : ∀ X : Cx, X = (cxOf CX0 P w K mg base ["script", "state", "size", "field", "told", "a", "b", "c", "number", "orders", "base", "long", "one", "other", "whole", "each", "value", "good", "k", "n"] "law" (defScope s_law) f cdv A outer s H E).nox → DSs X W0 (defBody s_law).tail b_law := fun X e => by
      subst e
      exact (ds_cons (ds_if (dt_neKL hu g_SIZES (de_tup (da_cons de_int (da_cons de_int (da_cons de_int (da_cons de_int (da_cons de_int (da_cons de_int (da_cons de_int (da_cons de_int (da_cons de_int (da_cons de_int da_nil)))))))))))) (ds_cons (ds_ret de_bl) ds_nil) ds_nil) (ds_cons (ds_set 2 nd (de_fnW 1 h__law_pick (hr.mono (by decide)) (da_cons (de_f (df_listK g_SIZES B.list)) da_nil))) (ds_cons (ds_asg (de_tup (da_cons (de_fn h__law_field (hr.mono (by decide)) (da_cons (de_v 2) da_nil)) (da_cons (de_make h_Field mk_Field_ok (hr.mono (by decide)) (da_cons (de_v 2) da_nil)) da_nil))) (dg_tup rfl (dgs_cons (dg_name 3 nd rfl (by first | exact Or.inl rfl | exact Or.inr rfl)) (dgs_cons (dg_name 4 nd rfl (by first | exact Or.inl rfl | exact Or.inr rfl)) dgs_nil)))) (ds_cons (ds_if (dt_cmp (od_ne hu) (de_fld c_Field n_Field_size (de_v 4)) (dl_e (de_v 2)) (nomark _)) (ds_cons (ds_ret de_bl) ds_nil) ds_nil) (ds_cons (ds_for PassesOwn.never rfl (di_range1 (by rfl) B.range (da_cons (de_v 2) da_nil)) (dg_name 5 nd rfl (by first | exact Or.inl rfl | exact Or.inr rfl)) (ds_cons (ds_if (dt_w (dw_or (dt_cmp (od_ne hu) (de_f (df_comp (own := [("b", 6)]) rfl nd (di_range1 (by rfl) B.range (da_cons (de_v 2) da_nil)) (blkOk_by (by rfl)) (fun _ _ _ _ _ => (dg_name 6 nd rfl (by first | exact Or.inl rfl | exact Or.inr rfl))) (fun _ _ _ _ _ => dts_nil) (fun _ _ _ _ _ => (de_meth h_Field_plus (hr.mono (by decide)) (de_v 4) (da_cons (de_v 5) (da_cons (de_v 6) da_nil)))) (by decide))) (dl_e (de_ix hu (de_ix hu (de_v 3) de_int) (de_v 5))) (nomark _)) (dw_or (dt_cmp (od_ne hu) (de_f (df_comp (own := [("b", 6)]) rfl nd (di_range1 (by rfl) B.range (da_cons (de_v 2) da_nil)) (blkOk_by (by rfl)) (fun _ _ _ _ _ => (dg_name 6 nd rfl (by first | exact Or.inl rfl | exact Or.inr rfl))) (fun _ _ _ _ _ => dts_nil) (fun _ _ _ _ _ => (de_meth h_Field_times (hr.mono (by decide)) (de_v 4) (da_cons (de_v 5) (da_cons (de_v 6) da_nil)))) (by decide))) (dl_e (de_ix hu (de_ix hu (de_v 3) de_int) (de_v 5))) (nomark _)) (dw_or1 (dt_cmp (od_ne hu) (de_meth h_Field_negative (hr.mono (by decide)) (de_v 4) (da_cons (de_v 5) da_nil)) (dl_e (de_index (de_ix hu (de_ix hu (de_v 3) de_int) (de_v 5)) de_int)) (nomark _)))))) (ds_cons (ds_ret de_bl) ds_nil) ds_nil) (ds_cons (ds_if (dt_cmp (od_ne hu) (de_f (df_comp (own := [("b", 6)]) rfl nd (di_range1 (by rfl) B.range (da_cons (de_v 2) da_nil)) (blkOk_by (by rfl)) (fun _ _ _ _ _ => (dg_name 6 nd rfl (by first | exact Or.inl rfl | exact Or.inr rfl))) (fun _ _ _ _ _ => dts_nil) (fun _ _ _ _ _ => (de_meth h_Field_minus (hr.mono (by decide)) (de_v 4) (da_cons (de_v 5) (da_cons (de_v 6) da_nil)))) (by decide))) (dl_e (de_f (df_comp (own := [("b", 6)]) rfl nd (di_range1 (by rfl) B.range (da_cons (de_v 2) da_nil)) (blkOk_by (by rfl)) (fun _ _ _ _ _ => (dg_name 6 nd rfl (by first | exact Or.inl rfl | exact Or.inr rfl))) (fun _ _ _ _ _ => dts_nil) (fun _ _ _ _ _ => (de_ix hu (de_ix hu (de_ix hu (de_v 3) de_int) (de_v 5)) (de_index (de_ix hu (de_ix hu (de_v 3) de_int) (de_v 6)) de_int))) (by decide)))) (nomark _)) (ds_cons (ds_ret de_bl) ds_nil) ds_nil) (ds_cons (ds_if (dt_w (dw_and (dt_cmp od_gt (de_v 5) (dl_e de_int) (nomark _)) (dw_and1 (dt_w (dw_or (dt_cmp (od_ne hu) (de_meth h_Field_inverse (hr.mono (by decide)) (de_v 4) (da_cons (de_v 5) da_nil)) (dl_e (de_index (de_ix hu (de_ix hu (de_v 3) de_int) (de_v 5)) de_int)) (nomark _)) (dw_or1 (dt_cmp (od_ne hu) (de_f (df_comp (own := [("b", 6)]) rfl nd (di_range1 (by rfl) B.range (da_cons (de_v 2) da_nil)) (blkOk_by (by rfl)) (fun _ _ _ _ _ => (dg_name 6 nd rfl (by first | exact Or.inl rfl | exact Or.inr rfl))) (fun _ _ _ _ _ => dts_nil) (fun _ _ _ _ _ => (de_meth h_Field_over (hr.mono (by decide)) (de_v 4) (da_cons (de_v 6) (da_cons (de_v 5) da_nil)))) (by decide))) (dl_e (de_f (df_comp (own := [("b", 6)]) rfl nd (di_range1 (by rfl) B.range (da_cons (de_v 2) da_nil)) (blkOk_by (by rfl)) (fun _ _ _ _ _ => (dg_name 6 nd rfl (by first | exact Or.inl rfl | exact Or.inr rfl))) (fun _ _ _ _ _ => dts_nil) (fun _ _ _ _ _ => (de_ix hu (de_ix hu (de_ix hu (de_v 3) de_int) (de_v 6)) (de_index (de_ix hu (de_ix hu (de_v 3) de_int) (de_v 5)) de_int))) (by decide)))) (nomark _)))))))) (ds_cons (ds_ret de_bl) ds_nil) ds_nil) ds_nil)))) (ds_cons (ds_asg (de_tup (da_cons (de_fnW 1 h__law_take (hr.mono (by decide)) (da_cons (de_v 2) da_nil)) (da_cons (de_fnW 1 h__law_take (hr.mono (by decide)) (da_cons (de_v 2) da_nil)) (da_cons (de_fnW 1 h__law_take (hr.mono (by decide)) (da_cons (de_v 2) da_nil)) da_nil)))) (dg_tup rfl (dgs_cons (dg_name 5 nd rfl (by first | exact Or.inl rfl | exact Or.inr rfl)) (dgs_cons (dg_name 6 nd rfl (by first | exact Or.inl rfl | exact Or.inr rfl)) (dgs_cons (dg_name 7 nd rfl (by first | exact Or.inl rfl | exact Or.inr rfl)) dgs_nil))))) (ds_cons (ds_if (dt_w (dw_or (dt_cmp (od_ne hu) (de_ix hu (de_ix hu (de_ix hu (de_v 3) de_int) (de_v 5)) (de_ix hu (de_ix hu (de_ix hu (de_v 3) de_int) (de_v 6)) (de_v 7))) (dl_e (de_ix hu (de_ix hu (de_ix hu (de_v 3) de_int) (de_ix hu (de_ix hu (de_ix hu (de_v 3) de_int) (de_v 5)) (de_v 6))) (de_ix hu (de_ix hu (de_ix hu (de_v 3) de_int) (de_v 5)) (de_v 7)))) (nomark _)) (dw_or1 (dt_cmp (od_ne hu) (de_meth h_Field_times (hr.mono (by decide)) (de_v 4) (da_cons (de_meth h_Field_times (hr.mono (by decide)) (de_v 4) (da_cons (de_v 5) (da_cons (de_v 6) da_nil))) (da_cons (de_v 7) da_nil))) (dl_e (de_meth h_Field_times (hr.mono (by decide)) (de_v 4) (da_cons (de_v 5) (da_cons (de_meth h_Field_times (hr.mono (by decide)) (de_v 4) (da_cons (de_v 6) (da_cons (de_v 7) da_nil))) da_nil)))) (nomark _))))) (ds_cons (ds_ret de_bl) ds_nil) ds_nil) (ds_cons (ds_set 8 nd (de_fnW 1 h__law_take (hr.mono (by decide)) (da_cons de_int da_nil))) (ds_cons (ds_if (dt_w (dw_or (dt_cmp (od_ne hu) (de_meth h_Field_power (hr.mono (by decide)) (de_v 4) (da_cons (de_v 5) (da_cons (de_v 8) da_nil))) (dl_e (de_fn h__law_power (hr.mono (by decide)) (da_cons (de_v 3) (da_cons (de_v 5) (da_cons (de_v 8) da_nil))))) (nomark _)) (dw_or (dt_cmp (od_ne hu) (de_meth h_Field_power (hr.mono (by decide)) (de_v 4) (da_cons de_int (da_cons de_int da_nil))) (dl_e de_int) (nomark _)) (dw_or1 (dt_w (dw_and (dt_cmp od_gt (de_v 5) (dl_e de_int) (nomark _)) (dw_and1 (dt_cmp (od_ne hu) (de_meth h_Field_power (hr.mono (by decide)) (de_v 4) (da_cons (de_v 5) (da_cons (de_op od_sub (de_v 2) (dl_e de_int)) da_nil))) (dl_e de_int) (nomark _))))))))) (ds_cons (ds_ret de_bl) ds_nil) ds_nil) (ds_cons (ds_set 9 nd (de_f (df_comp (own := [("each", 15)]) rfl nd (di_range2 (by rfl) B.range (da_cons de_int (da_cons (de_v 2) da_nil))) (blkOk_by (by rfl)) (fun _ _ _ _ _ => (dg_name 15 nd rfl (by first | exact Or.inl rfl | exact Or.inr rfl))) (fun _ _ _ _ _ => dts_nil) (fun _ _ _ _ _ => (de_ix hu (de_f (df_comp (own := [("n", 19)]) rfl nd (di_range2 (by rfl) B.range (da_cons de_int (da_cons (de_v 2) da_nil))) (blkOk_by (by rfl)) (fun _ _ _ _ _ => (dg_name 19 nd rfl (by first | exact Or.inl rfl | exact Or.inr rfl))) (fun _ _ _ _ _ => (dts_one (dt_cmp (od_eq hu) (de_fn h__law_power (hr.mono (by decide)) (da_cons (de_v 3) (da_cons (de_v 15) (da_cons (de_v 19) da_nil)))) (dl_e de_int) (nomark _)))) (fun _ _ _ _ _ => (de_v 19)) (by decide))) de_int)) (by decide)))) (ds_cons (ds_if (dt_w (dw_or (dt_cmp (od_ne hu) (de_f (df_comp (own := [("each", 15)]) rfl nd (di_range2 (by rfl) B.range (da_cons de_int (da_cons (de_v 2) da_nil))) (blkOk_by (by rfl)) (fun _ _ _ _ _ => (dg_name 15 nd rfl (by first | exact Or.inl rfl | exact Or.inr rfl))) (fun _ _ _ _ _ => dts_nil) (fun _ _ _ _ _ => (de_meth h_Field_order (hr.mono (by decide)) (de_v 4) (da_cons (de_v 15) da_nil))) (by decide))) (dl_e (de_v 9)) (nomark _)) (dw_or1 (dt_cmp (od_ne hu) (de_meth0 h_Field_generators (hr.mono (by decide)) (de_v 4)) (dl_e (de_f (df_comp (own := [("each", 15)]) rfl nd (di_range2 (by rfl) B.range (da_cons de_int (da_cons (de_v 2) da_nil))) (blkOk_by (by rfl)) (fun _ _ _ _ _ => (dg_name 15 nd rfl (by first | exact Or.inl rfl | exact Or.inr rfl))) (fun _ _ _ _ _ => (dts_one (dt_cmp (od_eq hu) (de_ix hu (de_v 9) (de_op od_sub (de_v 15) (dl_e de_int))) (dl_e (de_op od_sub (de_v 2) (dl_e de_int))) (nomark _)))) (fun _ _ _ _ _ => (de_v 15)) (by decide)))) (nomark _))))) (ds_cons (ds_ret de_bl) ds_nil) ds_nil) (ds_cons (ds_set 10 nd (de_fnW 1 h__law_pick (hr.mono (by decide)) (da_cons (de_meth0 h_Field_generators (hr.mono (by decide)) (de_v 4)) da_nil))) (ds_cons (ds_if (dt_w (dw_or (dt_cmp (od_ne hu) (de_f (df_comp (own := [("each", 15)]) rfl nd (di_range2 (by rfl) B.range (da_cons de_int (da_cons (de_v 2) da_nil))) (blkOk_by (by rfl)) (fun _ _ _ _ _ => (dg_name 15 nd rfl (by first | exact Or.inl rfl | exact Or.inr rfl))) (fun _ _ _ _ _ => dts_nil) (fun _ _ _ _ _ => (de_meth h_Field_power (hr.mono (by decide)) (de_v 4) (da_cons (de_v 10) (da_cons (de_meth h_Field_log (hr.mono (by decide)) (de_v 4) (da_cons (de_v 10) (da_cons (de_v 15) da_nil))) da_nil)))) (by decide))) (dl_e (de_f (df_lrng2 B.list B.range de_int (de_v 2)))) (nomark _)) (dw_or1 (dt_cmp (od_ne hu) (de_f (df_B cf_sorted (by rfl) B.sorted bt_sorted (da_cons (de_f (df_comp (own := [("each", 15)]) rfl nd (di_range2 (by rfl) B.range (da_cons de_int (da_cons (de_v 2) da_nil))) (blkOk_by (by rfl)) (fun _ _ _ _ _ => (dg_name 15 nd rfl (by first | exact Or.inl rfl | exact Or.inr rfl))) (fun _ _ _ _ _ => dts_nil) (fun _ _ _ _ _ => (de_meth h_Field_log (hr.mono (by decide)) (de_v 4) (da_cons (de_v 10) (da_cons (de_v 15) da_nil)))) (by decide))) da_nil))) (dl_e (de_f (df_lrng1 B.list B.range (de_op od_sub (de_v 2) (dl_e de_int))))) (nomark _))))) (ds_cons (ds_ret de_bl) ds_nil) ds_nil) (ds_cons (ds_set 11 nd (de_fnW 1 h__law_take (hr.mono (by decide)) (da_cons de_int da_nil))) (ds_cons (ds_set 12 nd (de_Ty cd_tuple (by rfl) B.tuple bt_tuple (da_cons (de_f (df_comp (own := [("k", 18)]) rfl nd (di_range1 (by rfl) B.range (da_cons (de_v 11) da_nil)) (blkOk_by (by rfl)) (fun _ _ _ _ _ => (dg_name 18 nd rfl (by first | exact Or.inl rfl | exact Or.inr rfl))) (fun _ _ _ _ _ => dts_nil) (fun _ _ _ _ _ => (de_fnW 1 h__law_take (hr.mono (by decide)) (da_cons (de_v 2) da_nil))) (by decide))) da_nil))) (ds_cons (ds_set 13 nd (de_Ty cd_tuple (by rfl) B.tuple bt_tuple (da_cons (de_f (df_comp (own := [("k", 18)]) rfl nd (di_range1 (by rfl) B.range (da_cons (de_v 11) da_nil)) (blkOk_by (by rfl)) (fun _ _ _ _ _ => (dg_name 18 nd rfl (by first | exact Or.inl rfl | exact Or.inr rfl))) (fun _ _ _ _ _ => dts_nil) (fun _ _ _ _ _ => (de_fnW 1 h__law_pick (hr.mono (by decide)) (da_cons (de_lst (da_cons (de_ix hu (de_v 12) (de_v 18)) (da_cons (de_fnW 1 h__law_take (hr.mono (by decide)) (da_cons (de_v 2) da_nil)) da_nil))) da_nil))) (by decide))) da_nil))) (ds_cons (ds_set 14 nd de_int) (ds_cons (ds_for PassesOwn.never rfl (di_any (de_v 12)) (dg_name 15 nd rfl (by first | exact Or.inl rfl | exact Or.inr rfl)) (ds_cons (ds_set 14 nd (de_ix hu (de_ix hu (de_ix hu (de_v 3) de_int) (de_v 14)) (de_v 15))) ds_nil)) (ds_cons (ds_if (dt_w (dw_or (dt_cmp (od_ne hu) (de_meth h_Field_total (hr.mono (by decide)) (de_v 4) (da_cons (de_f (df_Ty cf_list (by rfl) B.list bt_list (da_cons (de_v 12) da_nil))) da_nil)) (dl_e (de_v 14)) (nomark _)) (dw_or1 (dt_cmp (od_ne hu) (de_meth h_Field_dot (hr.mono (by decide)) (de_v 4) (da_cons (de_v 12) (da_cons (de_v 13) da_nil))) (dl_e (de_fn h__law_dot (hr.mono (by decide)) (da_cons (de_v 3) (da_cons (de_v 12) (da_cons (de_v 13) da_nil))))) (nomark _))))) (ds_cons (ds_ret de_bl) ds_nil) ds_nil) (ds_cons (ds_if (dt_w (dw_or (dt_cmp (od_ne hu) (de_fn h_weight (hr.mono (by decide)) (da_cons (de_v 12) da_nil)) (dl_e (de_B cd_len (by rfl) B.len bt_len (da_cons (de_f (df_comp (own := [("n", 19)]) rfl nd (di_any (de_v 12)) (blkOk_by (by rfl)) (fun _ _ _ _ _ => (dg_name 19 nd rfl (by first | exact Or.inl rfl | exact Or.inr rfl))) (fun _ _ _ _ _ => (dts_one (dt_cmp (od_ne hu) (de_v 19) (dl_e de_int) (nomark _)))) (fun _ _ _ _ _ => (de_v 19)) (by decide))) da_nil))) (nomark _)) (dw_or1 (dt_cmp (od_ne hu) (de_fn h_distance (hr.mono (by decide)) (da_cons (de_v 12) (da_cons (de_v 13) da_nil))) (dl_e (de_B cd_len (by rfl) B.len bt_len (da_cons (de_f (df_comp (own := [("k", 18)]) rfl nd (di_range1 (by rfl) B.range (da_cons (de_v 11) da_nil)) (blkOk_by (by rfl)) (fun _ _ _ _ _ => (dg_name 18 nd rfl (by first | exact Or.inl rfl | exact Or.inr rfl))) (fun _ _ _ _ _ => (dts_one (dt_cmp (od_ne hu) (de_ix hu (de_v 12) (de_v 18)) (dl_e (de_ix hu (de_v 13) (de_v 18))) (nomark _)))) (fun _ _ _ _ _ => (de_v 18)) (by decide))) da_nil))) (nomark _))))) (ds_cons (ds_ret de_bl) ds_nil) ds_nil) (ds_cons (ds_if (dt_cmp (od_ne hu) (de_fn h_support (hr.mono (by decide)) (da_cons (de_v 12) da_nil)) (dl_e (de_Ty cd_tuple (by rfl) B.tuple bt_tuple (da_cons (de_f (df_comp (own := [("k", 18)]) rfl nd (di_range1 (by rfl) B.range (da_cons (de_v 11) da_nil)) (blkOk_by (by rfl)) (fun _ _ _ _ _ => (dg_name 18 nd rfl (by first | exact Or.inl rfl | exact Or.inr rfl))) (fun _ _ _ _ _ => (dts_one (dt_cmp (od_ne hu) (de_ix hu (de_v 12) (de_v 18)) (dl_e de_int) (nomark _)))) (fun _ _ _ _ _ => (de_v 18)) (by decide))) da_nil))) (nomark _)) (ds_cons (ds_ret de_bl) ds_nil) ds_nil) (ds_cons (ds_for PassesOwn.never rfl (di_any (de_lst (da_cons (de_v 12) (da_cons (de_f (df_Ty cf_list (by rfl) B.list bt_list (da_cons (de_v 12) da_nil))) (da_cons (de_op od_add (de_v 12) (dl_e (de_tup (da_cons de_int da_nil)))) (da_cons (de_sl (de_v 12) (dp_some de_int) dp_none) (da_cons de_non (da_cons (de_op od_add (de_sl (de_v 12) dp_none (dp_some (de_un ud_neg de_int))) (dl_e (de_tup (da_cons (de_v 2) da_nil)))) (da_cons (de_op od_add (de_sl (de_v 12) dp_none (dp_some (de_un ud_neg de_int))) (dl_e (de_tup (da_cons (de_un ud_neg de_int) da_nil)))) (da_cons (de_op od_add (de_sl (de_v 12) dp_none (dp_some (de_un ud_neg de_int))) (dl_e (de_tup (da_cons de_bl da_nil)))) (da_cons (de_op od_add (de_sl (de_v 12) dp_none (dp_some (de_un ud_neg de_int))) (dl_e (de_tup (da_cons de_non da_nil)))) da_nil))))))))))) (dg_name 16 nd rfl (by first | exact Or.inl rfl | exact Or.inr rfl)) (ds_cons (ds_set 17 nd (de_and (de_isi (de_v 16) B.isinstance B.tuple bt_tuple) (de_and (de_cmp (od_eq hu) (de_B cd_len (by rfl) B.len bt_len (da_cons (de_v 16) da_nil)) (dl_e (de_v 11)) (nomark _)) (de_one (de_cmp (od_eq hu) (de_B cd_len (by rfl) B.len bt_len (da_cons (de_f (df_comp (own := [("n", 19)]) rfl nd (di_any (de_v 16)) (blkOk_by (by rfl)) (fun _ _ _ _ _ => (dg_name 19 nd rfl (by first | exact Or.inl rfl | exact Or.inr rfl))) (fun _ _ _ _ _ => (dts_one (dt_w (dw_or (dt_not (dt_val (de_isi (de_v 19) B.isinstance B.int bt_int))) (dw_or (dt_val (de_isi (de_v 19) B.isinstance B.bool bt_bool)) (dw_or (dt_cmp od_lt (de_v 19) (dl_e de_int) (nomark _)) (dw_or1 (dt_cmp od_ge (de_v 19) (dl_e (de_v 2)) (nomark _))))))))) (fun _ _ _ _ _ => (de_v 19)) (by decide))) da_nil)) (dl_e de_int) (nomark _)))))) (ds_cons (ds_if (dt_cmp (od_ne hu) (de_fn h_is_word (hr.mono (by decide)) (da_cons (de_v 16) (da_cons (de_v 2) (da_cons (de_v 11) da_nil)))) (dl_e (de_v 17)) (nomark _)) (ds_cons (ds_ret de_bl) ds_nil) ds_nil) ds_nil))) (ds_cons (ds_if (dt_cmp (od_ne hu) (de_f (df_comp (own := [("value", 16)]) rfl nd (di_any (de_lst (da_cons (de_v 2) (da_cons de_int (da_cons de_int (da_cons de_int (da_cons de_int (da_cons de_int (da_cons de_bl (da_cons de_non (da_cons de_str (da_cons (de_un ud_neg de_int) (da_cons de_int (da_cons de_int (da_cons de_int da_nil))))))))))))))) (blkOk_by (by rfl)) (fun _ _ _ _ _ => (dg_name 16 nd rfl (by first | exact Or.inl rfl | exact Or.inr rfl))) (fun _ _ _ _ _ => dts_nil) (fun _ _ _ _ _ => (de_fn h_is_size (hr.mono (by decide)) (da_cons (de_v 16) da_nil))) (by decide))) (dl_e (de_op od_add (de_lst (da_cons de_bl da_nil)) (dl_e (de_op od_mul (de_lst (da_cons de_bl da_nil)) (dl_e de_int))))) (nomark _)) (ds_cons (ds_ret de_bl) ds_nil) ds_nil) (ds_cons (ds_ret (de_cmp (od_eq hu) (de_lst (da_cons (de_fn h_is_whole (hr.mono (by decide)) (da_cons de_int (da_cons de_int (da_cons de_int da_nil)))) (da_cons (de_fn h_is_whole (hr.mono (by decide)) (da_cons de_int (da_cons de_int (da_cons de_int da_nil)))) (da_cons (de_fn h_is_whole (hr.mono (by decide)) (da_cons de_bl (da_cons de_int (da_cons de_int da_nil)))) (da_cons (de_fn h_is_whole (hr.mono (by decide)) (da_cons de_str (da_cons de_int (da_cons de_int da_nil)))) da_nil))))) (dl_e (de_lst (da_cons de_bl (da_cons de_bl (da_cons de_bl (da_cons de_bl da_nil)))))) (nomark _))) ds_nil))))))))))))))))))))))))
    obtain ⟨fS, fdS, GS, gS, kS, bS⟩ := h__law_state
    refine ⟨_, pss_cons (ps_set (i := 1) nd rfl (by first | exact Or.inl rfl | exact Or.inr rfl) (pe_call GS (hr.mono (by decide)) (by rfl) gS kS bS .nil pass0 (pa_cons (pv 0) pa_nil))) (hrest _ rfl), ?_⟩
    refine ⟨.ref a, rfl, a, ns, rfl, hS, hlen, fun H1 p b sm np nb ne ms hms ep eb => ?_⟩
    obtain ⟨S', er⟩ := hp p ms hms
    exact law_rest (n := 18) ne ep eb er q
end
end FW

namespace FW
open PySem PySem.Spec L2
open PyProof.Rows hiding St
/-! ### facts of the ten sizes -/
def fadd (n x y : Nat) : Nat := (addT n x y).toNat
def fmul (n x y : Nat) : Nat := (mulT n x y).toNat
def fneg (n x : Nat) : Nat := ((List.range n).find? fun k => fadd n x k == 0).getD 0
def finv (n x : Nat) : Nat := ((List.range n).find? fun k => fmul n x k == 1).getD 0
theorem add_facts : ∀ n ∈ sizesN, ∀ x < n, ∀ y < n, addT n x y = (fadd n x y : Nat) ∧ fadd n x y < n ∧ fadd n x y = fadd n y x := by decide +kernel
theorem mul_facts : ∀ n ∈ sizesN, ∀ x < n, ∀ y < n, mulT n x y = (fmul n x y : Nat) ∧ fmul n x y < n ∧ fmul n x y = fmul n y x := by decide +kernel
theorem neg_facts : ∀ n ∈ sizesN, ∀ x < n, fneg n x < n ∧ fadd n x (fneg n x) = 0 ∧ ∀ k < fneg n x, fadd n x k ≠ 0 := by decide +kernel
theorem inv_facts : ∀ n ∈ sizesN, ∀ x < n, x ≠ 0 → finv n x < n ∧ fmul n x (finv n x) = 1 ∧ ∀ k < finv n x, fmul n x k ≠ 1 := by decide +kernel
theorem unit_facts : ∀ n ∈ sizesN, ∀ x < n, fadd n 0 x = x ∧ fadd n x 0 = x ∧ fmul n 0 x = 0 ∧ fmul n x 0 = 0 ∧ fmul n 1 x = x ∧ fmul n x 1 = x := by decide +kernel
theorem size_facts : ∀ n ∈ sizesN, 2 ≤ n ∧ n ≤ 16 := by decide
/-! tables of four bits each -/
def bitA : Nat → Nat
  | 2 => 0x10000000000000010
  | 3 => 0x10200000000000000210000000000000210
  | 4 => 0x123000000000000103200000000000023010000000000003210
  | 5 => 0x321040000000000021043000000000001043200000000000043210000000000043210
  | 7 => 0x5432106000000000432106500000000032106540000000002106543000000000106543200000000006543210000000006543210
  | 8 => 0x12345670000000010325476000000002301674500000000321076540000000045670123000000005476103200000000674523010000000076543210
  | 9 => 0x43510276800000003540216870000000543210876000000010276843500000000216873540000000210876543000000076843510200000006873540210000000876543210
  | 11 => 0x9876543210a00000876543210a90000076543210a98000006543210a98700000543210a98760000043210a98765000003210a98765400000210a98765430000010a98765432000000a98765432100000a9876543210
  | 13 => 0xba9876543210c000a9876543210cb0009876543210cba000876543210cba900076543210cba980006543210cba987000543210cba987600043210cba987650003210cba987654000210cba987654300010cba987654320000cba987654321000cba9876543210
  | 16 => 0x123456789abcdef1032547698badcfe23016745ab89efcd32107654ba98fedc45670123cdef89ab54761032dcfe98ba67452301efcdab8976543210fedcba9889abcdef0123456798badcfe10325476ab89efcd23016745ba98fedc32107654cdef89ab45670123dcfe98ba54761032efcdab8967452301fedcba9876543210
  | _ => 0
def bitM : Nat → Nat
  | 2 => 0x100000000000000000
  | 3 => 0x12000000000000002100000000000000000
  | 4 => 0x2130000000000000132000000000000032100000000000000000
  | 5 => 0x123400000000000024130000000000003142000000000000432100000000000000000
  | 7 => 0x1234560000000000246135000000000036251400000000004152630000000000531642000000000065432100000000000000000
  | 8 => 0x346125700000000042351760000000006372415000000000152673400000000021475630000000005713642000000000765432100000000000000000
  | 9 => 0x61523748000000001386245700000000582471360000000026431875000000003271658400000000741852630000000045378612000000008765432100000000000000000
  | 11 => 0x123456789a0000002468a13579000000369147a2580000004815926a370000005a4938271600000061728394a500000073a6295184000000852a74196300000097531a8642000000a98765432100000000000000000
  | 13 => 0x123456789abc00002468ac13579b0000369c258b147a000048c37b26a15900005a27c4916b3800006c5b4a3928170000718293a4b5c6000083b6194c72a50000951a62b73c840000a741b852c9630000b97531ca86420000cba98765432100000000000000000
  | 16 => 0xa5783ce1b4692df05ba48679c23d1fe07ae36bf258c149d0843fd16a2e957bc0386d92c74f1ae5b0c6b1285f394ed7a0e7f6c5d4a3b28190192a7f4cd5e6b380bc5243ad618f9e70428ef93517dbac6063c914be8d27fa509d15ae26fb73c8402147ed8b9afc5630df9b5713eca86420fedcba98765432100000000000000000
  | _ => 0
def fA (n x y : Nat) : Nat := bitA n / 16 ^ (16 * x + y) % 16
def fM (n x y : Nat) : Nat := bitM n / 16 ^ (16 * x + y) % 16
theorem fA_eq : ∀ n ∈ sizesN, ∀ x < n, ∀ y < n, fadd n x y = fA n x y := by decide +kernel
theorem fM_eq : ∀ n ∈ sizesN, ∀ x < n, ∀ y < n, fmul n x y = fM n x y := by decide +kernel
theorem ring_facts0 : ∀ n ∈ sizesN, ∀ x < n, ∀ y < n, ∀ z < n, fA n (fA n x y) z = fA n x (fA n y z) ∧ fM n (fM n x y) z = fM n x (fM n y z) ∧ fM n x (fA n y z) = fA n (fM n x y) (fM n x z) := by decide +kernel
theorem ring_facts {n x y z : Nat} (hn : n ∈ sizesN) (hx : x < n) (hy : y < n) (hz : z < n) : fadd n (fadd n x y) z = fadd n x (fadd n y z) ∧ fmul n (fmul n x y) z = fmul n x (fmul n y z) ∧ fmul n x (fadd n y z) = fadd n (fmul n x y) (fmul n x z) := by
  have h := ring_facts0 n hn x hx y hy z hz
  have a1 := (add_facts n hn x hx y hy).2.1
  have a2 := (add_facts n hn y hy z hz).2.1
  have m1 := (mul_facts n hn x hx y hy).2.1
  have m2 := (mul_facts n hn y hy z hz).2.1
  have m3 := (mul_facts n hn x hx z hz).2.1
  rw [← fA_eq n hn x hx y hy, ← fA_eq n hn y hy z hz, ← fM_eq n hn x hx y hy, ← fM_eq n hn y hy z hz, ← fM_eq n hn x hx z hz, ← fA_eq n hn _ a1 z hz, ← fA_eq n hn x hx _ a2, ← fM_eq n hn _ m1 z hz, ← fM_eq n hn x hx _ m2, ← fM_eq n hn x hx _ a2, ← fA_eq n hn _ m1 _ m3] at h
  exact h
end FW

namespace FW
open PySem PySem.Spec L2
open PyProof.Rows hiding St
/-! ### the methods of a field -/
def rowI (n : Nat) (g : Nat → Nat) : D := .list ((List.range n).map fun c => .int (g c : Nat))
def tabN (n : Nat) (f : Nat → Nat → Nat) : D := .list ((List.range n).map fun a => rowI n (f a))
theorem ix_row {n y : Nat} {g : Nat → Nat} (hy : y < n) : ixD (rowI n g) (.int (y : Nat)) = some (.int (g y : Nat)) := by
  refine ixD_l ?_
  rw [List.getElem?_map, List.getElem?_range hy]
  rfl
theorem ix_tab {n x : Nat} {f : Nat → Nat → Nat} (hx : x < n) : ixD (tabN n f) (.int (x : Nat)) = some (rowI n (f x)) := by
  refine ixD_l ?_
  rw [List.getElem?_map, List.getElem?_range hx]
  rfl
theorem tab_eq {n : Nat} {f : Nat → Nat → Int} {g : Nat → Nat → Nat} (h : ∀ x < n, ∀ y < n, f x y = (g x y : Nat)) : tabI n f = tabN n g := by
  unfold tabI tabN rowI
  congr 1
  refine List.map_congr_left fun x hx => ?_
  congr 1
  refine List.map_congr_left fun y hy => ?_
  rw [h x (List.mem_range.mp hx) y (List.mem_range.mp hy)]
section
variable {n x y : Nat}
theorem f_sums (hn : n ∈ sizesN) : fldD "Field" "sums" (fieldD n) = some (tabN n (fadd n)) := by
  have e : fldD "Field" "sums" (fieldD n) = some (sumT (leadOf n).1 (leadOf n).2.1 n) := rfl
  rw [e]
  exact congrArg some (tab_eq (f := fun x y => addT n x y) fun x hx y hy => (add_facts n hn x hx y hy).1)
theorem f_products (hn : n ∈ sizesN) : fldD "Field" "products" (fieldD n) = some (tabN n (fmul n)) := by
  have e : fldD "Field" "products" (fieldD n) = some (prodT (leadOf n).1 (leadOf n).2.2 (leadOf n).2.1 n) := rfl
  rw [e]
  exact congrArg some (tab_eq (f := fun x y => mulT n x y) fun x hx y hy => (mul_facts n hn x hx y hy).1)
theorem f_fsize : fldD "Field" "size" (fieldD n) = some (.int n) := rfl
theorem plus_eq (hn : n ∈ sizesN) (hx : x < n) (hy : y < n) : f_Field_plus [fieldD n, .int x, .int y] = .ok (.int (fadd n x y : Nat)) := by
  refine Rp1.eq (R_run ?_)
  show Wp b_Field_plus [.dat (fieldD n), .dat (.int x), .dat (.int y)] _
  unfold b_Field_plus
  simp only [Ep_ret, Ep_opt, Ep_bind, Ep_bad, Ep_ite, Ep_C, Ep_nil, Ep_no, Ep_some, Ep_yes, Ep_Vm, Ep_cons, Ep_bin, Ep_un, Ep_ix, Ep_B, Ep_BF, Ep_tup, Ep_lst, Ep_lstF, Ep_bOf, Ep_and, Ep_or, Ep_not, Ep_eAnd, Ep_eOr, Ep_eNot, Ep_eIf, Ep_sl, Ep_fz, Ep_call, Ep_meth, Ep_rng1, Ep_rng2, Ep_rng3, Ep_iA, Ep_mut, Wp_nx, Wp_pass, Wp_brk, Wp_cnt, Wp_retN, Wp_seq, nxt_nx, nxt_rt, nxt_bk, nxt_ct, Wp_asg, Wp_set, Wp_own, Wp_dat, Wp_dic, Wp_ret, Wp_expr, Wp_if, Wp_par, Wp_par3, Wp_aug, Wp_for, Wp_while, Wp_setIx, gN_some, List.getElem?_cons_zero, List.getElem?_cons_succ, List.set_cons_zero, List.set_cons_succ, List.length_cons, List.length_nil, Option.some.injEq, exists_eq_left', exists_eq_left, true_and, and_true, if_true, if_false, f_sums hn, ix_tab hx, ix_row hy]
theorem times_eq (hn : n ∈ sizesN) (hx : x < n) (hy : y < n) : f_Field_times [fieldD n, .int x, .int y] = .ok (.int (fmul n x y : Nat)) := by
  refine Rp1.eq (R_run ?_)
  show Wp b_Field_times [.dat (fieldD n), .dat (.int x), .dat (.int y)] _
  unfold b_Field_times
  simp only [Ep_ret, Ep_opt, Ep_bind, Ep_bad, Ep_ite, Ep_C, Ep_nil, Ep_no, Ep_some, Ep_yes, Ep_Vm, Ep_cons, Ep_bin, Ep_un, Ep_ix, Ep_B, Ep_BF, Ep_tup, Ep_lst, Ep_lstF, Ep_bOf, Ep_and, Ep_or, Ep_not, Ep_eAnd, Ep_eOr, Ep_eNot, Ep_eIf, Ep_sl, Ep_fz, Ep_call, Ep_meth, Ep_rng1, Ep_rng2, Ep_rng3, Ep_iA, Ep_mut, Wp_nx, Wp_pass, Wp_brk, Wp_cnt, Wp_retN, Wp_seq, nxt_nx, nxt_rt, nxt_bk, nxt_ct, Wp_asg, Wp_set, Wp_own, Wp_dat, Wp_dic, Wp_ret, Wp_expr, Wp_if, Wp_par, Wp_par3, Wp_aug, Wp_for, Wp_while, Wp_setIx, gN_some, List.getElem?_cons_zero, List.getElem?_cons_succ, List.set_cons_zero, List.set_cons_succ, List.length_cons, List.length_nil, Option.some.injEq, exists_eq_left', exists_eq_left, true_and, and_true, if_true, if_false, f_products hn, ix_tab hx, ix_row hy]
theorem negative_eq (hn : n ∈ sizesN) (hx : x < n) : f_Field_negative [fieldD n, .int x] = .ok (.int (fneg n x : Nat)) := by
  refine Rp1.eq (R_run ?_)
  show Wp b_Field_negative [.dat (fieldD n), .dat (.int x)] _
  unfold b_Field_negative
  obtain ⟨h1, h2, h3⟩ := neg_facts n hn x hx
  simp only [Ep_ret, Ep_opt, Ep_bind, Ep_bad, Ep_ite, Ep_C, Ep_nil, Ep_no, Ep_some, Ep_yes, Ep_Vm, Ep_cons, Ep_bin, Ep_un, Ep_ix, Ep_B, Ep_BF, Ep_tup, Ep_lst, Ep_lstF, Ep_bOf, Ep_and, Ep_or, Ep_not, Ep_eAnd, Ep_eOr, Ep_eNot, Ep_eIf, Ep_sl, Ep_fz, Ep_call, Ep_meth, Ep_rng1, Ep_rng2, Ep_rng3, Ep_iA, Ep_mut, Wp_nx, Wp_pass, Wp_brk, Wp_cnt, Wp_retN, Wp_seq, nxt_nx, nxt_rt, nxt_bk, nxt_ct, Wp_asg, Wp_set, Wp_own, Wp_dat, Wp_dic, Wp_ret, Wp_expr, Wp_if, Wp_par, Wp_par3, Wp_aug, Wp_for, Wp_while, Wp_setIx, gN_some, List.getElem?_cons_zero, List.getElem?_cons_succ, List.set_cons_zero, List.set_cons_succ, List.length_cons, List.length_nil, Option.some.injEq, exists_eq_left', exists_eq_left, true_and, and_true, if_true, if_false, Ep_idx, f_sums hn, ix_tab hx]
  exact ⟨_, rfl, _, idx_first (v := 0) h1 h2 h3, rfl⟩
theorem minus_eq (hn : n ∈ sizesN) (hx : x < n) (hy : y < n) : f_Field_minus [fieldD n, .int x, .int y] = .ok (.int (fadd n x (fneg n y) : Nat)) := by
  refine Rp1.eq (R_run ?_)
  show Wp b_Field_minus [.dat (fieldD n), .dat (.int x), .dat (.int y)] _
  unfold b_Field_minus
  obtain ⟨h1, h2, h3⟩ := neg_facts n hn y hy
  simp only [Ep_ret, Ep_opt, Ep_bind, Ep_bad, Ep_ite, Ep_C, Ep_nil, Ep_no, Ep_some, Ep_yes, Ep_Vm, Ep_cons, Ep_bin, Ep_un, Ep_ix, Ep_B, Ep_BF, Ep_tup, Ep_lst, Ep_lstF, Ep_bOf, Ep_and, Ep_or, Ep_not, Ep_eAnd, Ep_eOr, Ep_eNot, Ep_eIf, Ep_sl, Ep_fz, Ep_call, Ep_meth, Ep_rng1, Ep_rng2, Ep_rng3, Ep_iA, Ep_mut, Wp_nx, Wp_pass, Wp_brk, Wp_cnt, Wp_retN, Wp_seq, nxt_nx, nxt_rt, nxt_bk, nxt_ct, Wp_asg, Wp_set, Wp_own, Wp_dat, Wp_dic, Wp_ret, Wp_expr, Wp_if, Wp_par, Wp_par3, Wp_aug, Wp_for, Wp_while, Wp_setIx, gN_some, List.getElem?_cons_zero, List.getElem?_cons_succ, List.set_cons_zero, List.set_cons_succ, List.length_cons, List.length_nil, Option.some.injEq, exists_eq_left', exists_eq_left, true_and, and_true, if_true, if_false, f_sums hn, ix_tab hx]
  refine ⟨rfl, Rp1.of (negative_eq hn hy) ?_⟩
  simp only [ix_row h1, Option.some.injEq, exists_eq_left']
theorem inverse_eq (hn : n ∈ sizesN) (hx : x < n) (h0 : x ≠ 0) : f_Field_inverse [fieldD n, .int x] = .ok (.int (finv n x : Nat)) := by
  refine Rp1.eq (R_run ?_)
  show Wp b_Field_inverse [.dat (fieldD n), .dat (.int x)] _
  unfold b_Field_inverse
  obtain ⟨h1, h2, h3⟩ := inv_facts n hn x hx h0
  simp only [Ep_ret, Ep_opt, Ep_bind, Ep_bad, Ep_ite, Ep_C, Ep_nil, Ep_no, Ep_some, Ep_yes, Ep_Vm, Ep_cons, Ep_bin, Ep_un, Ep_ix, Ep_B, Ep_BF, Ep_tup, Ep_lst, Ep_lstF, Ep_bOf, Ep_and, Ep_or, Ep_not, Ep_eAnd, Ep_eOr, Ep_eNot, Ep_eIf, Ep_sl, Ep_fz, Ep_call, Ep_meth, Ep_rng1, Ep_rng2, Ep_rng3, Ep_iA, Ep_mut, Wp_nx, Wp_pass, Wp_brk, Wp_cnt, Wp_retN, Wp_seq, nxt_nx, nxt_rt, nxt_bk, nxt_ct, Wp_asg, Wp_set, Wp_own, Wp_dat, Wp_dic, Wp_ret, Wp_expr, Wp_if, Wp_par, Wp_par3, Wp_aug, Wp_for, Wp_while, Wp_setIx, gN_some, List.getElem?_cons_zero, List.getElem?_cons_succ, List.set_cons_zero, List.set_cons_succ, List.length_cons, List.length_nil, Option.some.injEq, exists_eq_left', exists_eq_left, true_and, and_true, if_true, if_false, Ep_idx, f_products hn, ix_tab hx]
  exact ⟨_, rfl, _, idx_first (v := 1) h1 h2 h3, rfl⟩
theorem over_eq (hn : n ∈ sizesN) (hx : x < n) (hy : y < n) (h0 : y ≠ 0) : f_Field_over [fieldD n, .int x, .int y] = .ok (.int (fmul n x (finv n y) : Nat)) := by
  refine Rp1.eq (R_run ?_)
  show Wp b_Field_over [.dat (fieldD n), .dat (.int x), .dat (.int y)] _
  unfold b_Field_over
  obtain ⟨h1, h2, h3⟩ := inv_facts n hn y hy h0
  simp only [Ep_ret, Ep_opt, Ep_bind, Ep_bad, Ep_ite, Ep_C, Ep_nil, Ep_no, Ep_some, Ep_yes, Ep_Vm, Ep_cons, Ep_bin, Ep_un, Ep_ix, Ep_B, Ep_BF, Ep_tup, Ep_lst, Ep_lstF, Ep_bOf, Ep_and, Ep_or, Ep_not, Ep_eAnd, Ep_eOr, Ep_eNot, Ep_eIf, Ep_sl, Ep_fz, Ep_call, Ep_meth, Ep_rng1, Ep_rng2, Ep_rng3, Ep_iA, Ep_mut, Wp_nx, Wp_pass, Wp_brk, Wp_cnt, Wp_retN, Wp_seq, nxt_nx, nxt_rt, nxt_bk, nxt_ct, Wp_asg, Wp_set, Wp_own, Wp_dat, Wp_dic, Wp_ret, Wp_expr, Wp_if, Wp_par, Wp_par3, Wp_aug, Wp_for, Wp_while, Wp_setIx, gN_some, List.getElem?_cons_zero, List.getElem?_cons_succ, List.set_cons_zero, List.set_cons_succ, List.length_cons, List.length_nil, Option.some.injEq, exists_eq_left', exists_eq_left, true_and, and_true, if_true, if_false, f_products hn, ix_tab hx]
  refine ⟨rfl, Rp1.of (inverse_eq hn hy h0) ?_⟩
  simp only [ix_row h1, Option.some.injEq, exists_eq_left']
/-! ### sums of rows -/
def ftot (n : Nat) (r : List Nat) : Nat := r.foldl (fadd n) 0
theorem tot_lt {n : Nat} (hn : n ∈ sizesN) : ∀ (r : List Nat) (a : Nat), (∀ z ∈ r, z < n) → a < n → r.foldl (fadd n) a < n
  | [], a, _, ha => ha
  | z :: r, a, h, ha => tot_lt hn r _ (fun w hw => h w (.tail _ hw)) (add_facts n hn a ha z (h z (.head _))).2.1
theorem total_fold (n : Nat) : ∀ (r : List Nat) (acc : Nat) (t : Slot), ∃ t', (r.map nI).foldl (fun (s : Nat × Slot) d => (fadd n s.1 (match d with | .int k => k.toNat | _ => 0), Slot.dat d)) (acc, t) = (r.foldl (fadd n) acc, t')
  | [], acc, t => ⟨t, rfl⟩
  | k :: r, acc, t => by
    obtain ⟨t', e⟩ := total_fold n r (fadd n acc k) (.dat (nI k))
    exact ⟨t', e⟩
theorem total_eq {d : D} {r : List Nat} (hn : n ∈ sizesN) (hd : Row d r) (hr : ∀ z ∈ r, z < n) : f_Field_total [fieldD n, d] = .ok (.int (ftot n r : Nat)) := by
  refine Rp1.eq (R_run ?_)
  show Wp b_Field_total [.dat (fieldD n), .dat d, .un, .un] _
  unfold b_Field_total
  simp only [Ep_ret, Ep_opt, Ep_bind, Ep_bad, Ep_ite, Ep_C, Ep_nil, Ep_no, Ep_some, Ep_yes, Ep_Vm, Ep_cons, Ep_bin, Ep_un, Ep_ix, Ep_B, Ep_BF, Ep_tup, Ep_lst, Ep_lstF, Ep_bOf, Ep_and, Ep_or, Ep_not, Ep_eAnd, Ep_eOr, Ep_eNot, Ep_eIf, Ep_sl, Ep_fz, Ep_call, Ep_meth, Ep_rng1, Ep_rng2, Ep_rng3, Ep_iA, Ep_mut, Wp_nx, Wp_pass, Wp_brk, Wp_cnt, Wp_retN, Wp_seq, nxt_nx, nxt_rt, nxt_bk, nxt_ct, Wp_asg, Wp_set, Wp_own, Wp_dat, Wp_dic, Wp_ret, Wp_expr, Wp_if, Wp_par, Wp_par3, Wp_aug, Wp_for, Wp_while, Wp_setIx, gN_some, List.getElem?_cons_zero, List.getElem?_cons_succ, List.set_cons_zero, List.set_cons_succ, List.length_cons, List.length_nil, Option.some.injEq, exists_eq_left', exists_eq_left, true_and, and_true, if_true, if_false, hd.walk]
  have h2 := (size_facts n hn).1
  refine ⟨by decide, W_forL (st := fun (s : Nat × Slot) => [.dat (fieldD n), .dat d, .dat (.int (s.1 : Nat)), s.2]) (step := fun s d => (fadd n s.1 (match d with | .int k => k.toNat | _ => 0), .dat d)) (I := fun s => s.1 < n) (0, .un) (by show 0 < n; omega) (fun d hd s hI => ?_) (fun _ => ?_)⟩
  · obtain ⟨k, hk, rfl⟩ := List.mem_map.mp hd
    obtain ⟨h1, h2, _⟩ := add_facts n hn s.1 hI k (hr k hk)
    refine ⟨h2, _, rfl, ?_⟩
    simp only [Ep_ret, Ep_opt, Ep_bind, Ep_bad, Ep_ite, Ep_C, Ep_nil, Ep_no, Ep_some, Ep_yes, Ep_Vm, Ep_cons, Ep_bin, Ep_un, Ep_ix, Ep_B, Ep_BF, Ep_tup, Ep_lst, Ep_lstF, Ep_bOf, Ep_and, Ep_or, Ep_not, Ep_eAnd, Ep_eOr, Ep_eNot, Ep_eIf, Ep_sl, Ep_fz, Ep_call, Ep_meth, Ep_rng1, Ep_rng2, Ep_rng3, Ep_iA, Ep_mut, Wp_nx, Wp_pass, Wp_brk, Wp_cnt, Wp_retN, Wp_seq, nxt_nx, nxt_rt, nxt_bk, nxt_ct, Wp_asg, Wp_set, Wp_own, Wp_dat, Wp_dic, Wp_ret, Wp_expr, Wp_if, Wp_par, Wp_par3, Wp_aug, Wp_for, Wp_while, Wp_setIx, gN_some, List.getElem?_cons_zero, List.getElem?_cons_succ, List.set_cons_zero, List.set_cons_succ, List.length_cons, List.length_nil, Option.some.injEq, exists_eq_left', exists_eq_left, true_and, and_true, if_true, if_false, f_sums hn, ix_tab hI, nI_eq, ix_row (hr k hk)]
    exact ⟨by simp, .inl rfl⟩
  · obtain ⟨t', e⟩ := total_fold n r 0 .un
    rw [e]
    simp only [Ep_ret, Ep_opt, Ep_bind, Ep_bad, Ep_ite, Ep_C, Ep_nil, Ep_no, Ep_some, Ep_yes, Ep_Vm, Ep_cons, Ep_bin, Ep_un, Ep_ix, Ep_B, Ep_BF, Ep_tup, Ep_lst, Ep_lstF, Ep_bOf, Ep_and, Ep_or, Ep_not, Ep_eAnd, Ep_eOr, Ep_eNot, Ep_eIf, Ep_sl, Ep_fz, Ep_call, Ep_meth, Ep_rng1, Ep_rng2, Ep_rng3, Ep_iA, Ep_mut, Wp_nx, Wp_pass, Wp_brk, Wp_cnt, Wp_retN, Wp_seq, nxt_nx, nxt_rt, nxt_bk, nxt_ct, Wp_asg, Wp_set, Wp_own, Wp_dat, Wp_dic, Wp_ret, Wp_expr, Wp_if, Wp_par, Wp_par3, Wp_aug, Wp_for, Wp_while, Wp_setIx, gN_some, List.getElem?_cons_zero, List.getElem?_cons_succ, List.set_cons_zero, List.set_cons_succ, List.length_cons, List.length_nil, Option.some.injEq, exists_eq_left', exists_eq_left, true_and, and_true, if_true, if_false]
    rfl
def fdot (n : Nat) (xs ys : List Nat) : Nat := ftot n ((List.range xs.length).map fun k => fmul n (xs.getD k 0) (ys.getD k 0))
theorem getD_lt {n : Nat} {xs : List Nat} {k : Nat} (h : ∀ z ∈ xs, z < n) (hk : k < xs.length) : xs.getD k 0 < n := by
  rw [List.getD_eq_getElem?_getD, List.getElem?_eq_getElem hk]
  exact h _ (List.getElem_mem hk)
theorem dot_eq {a b : D} {xs ys : List Nat} (hn : n ∈ sizesN) (ha : Row a xs) (hb : Row b ys) (hx : ∀ z ∈ xs, z < n) (hy : ∀ z ∈ ys, z < n) (hl : xs.length ≤ ys.length) (hs : xs.length ≤ 1000000) : f_Field_dot [fieldD n, a, b] = .ok (.int (fdot n xs ys : Nat)) := by
  refine Rp1.eq (R_run ?_)
  show Wp b_Field_dot [.dat (fieldD n), .dat a, .dat b, .un] _
  unfold b_Field_dot
  simp only [Ep_ret, Ep_opt, Ep_bind, Ep_bad, Ep_ite, Ep_C, Ep_nil, Ep_no, Ep_some, Ep_yes, Ep_Vm, Ep_cons, Ep_bin, Ep_un, Ep_ix, Ep_B, Ep_BF, Ep_tup, Ep_lst, Ep_lstF, Ep_bOf, Ep_and, Ep_or, Ep_not, Ep_eAnd, Ep_eOr, Ep_eNot, Ep_eIf, Ep_sl, Ep_fz, Ep_call, Ep_meth, Ep_rng1, Ep_rng2, Ep_rng3, Ep_iA, Ep_mut, Wp_nx, Wp_pass, Wp_brk, Wp_cnt, Wp_retN, Wp_seq, nxt_nx, nxt_rt, nxt_bk, nxt_ct, Wp_asg, Wp_set, Wp_own, Wp_dat, Wp_dic, Wp_ret, Wp_expr, Wp_if, Wp_par, Wp_par3, Wp_aug, Wp_for, Wp_while, Wp_setIx, gN_some, List.getElem?_cons_zero, List.getElem?_cons_succ, List.set_cons_zero, List.set_cons_succ, List.length_cons, List.length_nil, Option.some.injEq, exists_eq_left', exists_eq_left, true_and, and_true, if_true, if_false, ha.len]
  refine ⟨rfl, ?_⟩
  refine E_mapR xs.length (fun k => nI (fmul n (xs.getD k 0) (ys.getD k 0))) ?_ (by simp) rfl hs (fun k hk => ?_) ?_
  · simp only [Ep_ret, Ep_opt, Ep_bind, Ep_bad, Ep_ite, Ep_C, Ep_nil, Ep_no, Ep_some, Ep_yes, Ep_Vm, Ep_cons, Ep_bin, Ep_un, Ep_ix, Ep_B, Ep_BF, Ep_tup, Ep_lst, Ep_lstF, Ep_bOf, Ep_and, Ep_or, Ep_not, Ep_eAnd, Ep_eOr, Ep_eNot, Ep_eIf, Ep_sl, Ep_fz, Ep_call, Ep_meth, Ep_rng1, Ep_rng2, Ep_rng3, Ep_iA, Ep_mut, Wp_nx, Wp_pass, Wp_brk, Wp_cnt, Wp_retN, Wp_seq, nxt_nx, nxt_rt, nxt_bk, nxt_ct, Wp_asg, Wp_set, Wp_own, Wp_dat, Wp_dic, Wp_ret, Wp_expr, Wp_if, Wp_par, Wp_par3, Wp_aug, Wp_for, Wp_while, Wp_setIx, gN_some, List.getElem?_cons_zero, List.getElem?_cons_succ, List.set_cons_zero, List.set_cons_succ, List.length_cons, List.length_nil, Option.some.injEq, exists_eq_left', exists_eq_left, true_and, and_true, if_true, if_false, ha.len, rng1_ok (n := xs.length) (by omega), and_self]
  · have h1 := getD_lt hx hk
    have h2 := getD_lt hy (show k < ys.length by omega)
    simp only [Ep_ret, Ep_opt, Ep_bind, Ep_bad, Ep_ite, Ep_C, Ep_nil, Ep_no, Ep_some, Ep_yes, Ep_Vm, Ep_cons, Ep_bin, Ep_un, Ep_ix, Ep_B, Ep_BF, Ep_tup, Ep_lst, Ep_lstF, Ep_bOf, Ep_and, Ep_or, Ep_not, Ep_eAnd, Ep_eOr, Ep_eNot, Ep_eIf, Ep_sl, Ep_fz, Ep_call, Ep_meth, Ep_rng1, Ep_rng2, Ep_rng3, Ep_iA, Ep_mut, Wp_nx, Wp_pass, Wp_brk, Wp_cnt, Wp_retN, Wp_seq, nxt_nx, nxt_rt, nxt_bk, nxt_ct, Wp_asg, Wp_set, Wp_own, Wp_dat, Wp_dic, Wp_ret, Wp_expr, Wp_if, Wp_par, Wp_par3, Wp_aug, Wp_for, Wp_while, Wp_setIx, gN_some, List.getElem?_cons_zero, List.getElem?_cons_succ, List.set_cons_zero, List.set_cons_succ, List.length_cons, List.length_nil, Option.some.injEq, exists_eq_left', exists_eq_left, true_and, and_true, if_true, if_false, f_products hn, ha.ix hk, hb.ix (show k < ys.length by omega), ix_tab h1, ix_row h2, nI_eq, and_self]
  · refine Rp1.of (total_eq hn (.inl (by rw [List.map_map]; rfl)) (r := (List.range xs.length).map fun k => fmul n (xs.getD k 0) (ys.getD k 0)) fun z hz => ?_) rfl
    obtain ⟨k, hk, rfl⟩ := List.mem_map.mp hz
    have hk := List.mem_range.mp hk
    exact (mul_facts n hn _ (getD_lt hx hk) _ (getD_lt hy (by omega))).2.1
end
end FW

namespace FW
open PySem PySem.Spec L2
open PyProof.Rows hiding St
/-! ### powers -/
def fpow (n x : Nat) : Nat → Nat
  | 0 => 1
  | k + 1 => fmul n (fpow n x k) x
section
variable {n x y : Nat}
theorem fpow_lt (hn : n ∈ sizesN) (hx : x < n) : ∀ k, fpow n x k < n
  | 0 => by have := (size_facts n hn).1; show 1 < n; omega
  | k + 1 => (mul_facts n hn _ (fpow_lt hn hx k) x hx).2.1
theorem fpow_add (hn : n ∈ sizesN) (hx : x < n) (j : Nat) : ∀ k, fpow n x (j + k) = fmul n (fpow n x j) (fpow n x k)
  | 0 => by
    show fpow n x j = fmul n (fpow n x j) 1
    rw [(unit_facts n hn _ (fpow_lt hn hx j)).2.2.2.2.2]
  | k + 1 => by
    show fmul n (fpow n x (j + k)) x = fmul n (fpow n x j) (fmul n (fpow n x k) x)
    rw [fpow_add hn hx j k, (ring_facts hn (fpow_lt hn hx j) (fpow_lt hn hx k) hx).2.1]
theorem bits_fold : ∀ (ds : List Int) (acc : Int) (a : Nat), (∀ z ∈ ds, 0 ≤ z ∧ z < 2) → acc = (a : Nat) → ds.foldl (fun acc d => acc * 2 + d) acc = (ds.foldl (fun e d => 2 * e + d.toNat) a : Nat)
  | [], acc, a, _, h => h
  | z :: ds, acc, a, hz, h => by
    have := hz z (.head _)
    exact bits_fold ds _ _ (fun w hw => hz w (.tail _ hw)) (by show acc * 2 + z = ((2 * a + z.toNat : Nat) : Int); omega)
theorem numOf_digs (b : Int) (hb : 0 < b) : ∀ (m : Nat) (k : Int), 0 ≤ k → k < b ^ m → numOf b (digs k b m) = k
  | 0, k, h0, h1 => by
    have h1' : k < 1 := by rw [Int.pow_zero] at h1; exact h1
    have : k = 0 := by omega
    rw [this]
    rfl
  | m + 1, k, h0, h1 => by
    have h2 : k / b < b ^ m := by
      refine Int.ediv_lt_of_lt_mul hb ?_
      rw [← Int.pow_succ]
      exact h1
    have ih := numOf_digs b hb m (k / b) (Int.ediv_nonneg h0 (by omega)) h2
    show numOf b (digs (k / b) b m) * b + k % b = k
    rw [ih, Int.mul_comm]
    exact Int.mul_ediv_add_emod k b
theorem pow_fold (n x : Nat) : ∀ (ds : List Int) (e : Nat) (t : Slot), ∃ t', (ds.map PyData.int).foldl (fun (s : Nat × Slot) d => (2 * s.1 + (isInt d).toNat, Slot.dat d)) (e, t) = (ds.foldl (fun e d => 2 * e + d.toNat) e, t')
  | [], e, t => ⟨t, rfl⟩
  | k :: ds, e, t => by
    obtain ⟨t', q⟩ := pow_fold n x ds (2 * e + k.toNat) (.dat (.int k))
    exact ⟨t', q⟩
theorem power_eq {k : Nat} (hn : n ∈ sizesN) (hx : x < n) (hk : k < 2 ^ 900) : f_Field_power [fieldD n, .int x, .int k] = .ok (.int (fpow n x k : Nat)) := by
  refine Rp1.eq (R_run ?_)
  show Wp b_Field_power [.dat (fieldD n), .dat (.int x), .dat (.int k), .un, .un] _
  unfold b_Field_power
  have hm : Builtin.Int.intBits k < 1000 ∧ k < 2 ^ Builtin.Int.intBits k := by
    unfold Builtin.Int.intBits
    by_cases h0 : k = 0
    · subst h0
      decide
    · have hne : ((k : Int) == 0) = false := by
        rw [beq_eq_false_iff_ne]
        omega
      rw [hne]
      simp only [Bool.false_eq_true, if_false, Int.natAbs_natCast]
      have h1 := (Nat.log2_lt h0 (k := 900)).mpr hk
      exact ⟨by omega, Nat.lt_log2_self⟩
  generalize hmm : Builtin.Int.intBits k = m at hm
  have eb : bitsD (.int k) = some (.int (m : Nat)) := by
    rw [← hmm]
    rfl
  have d1 := digits_eq (n := k) (b := 2) (m := m) (by decide) (by decide) hm.1
  have er : revD (.list ((digs k 2 m).map PyData.int)) = some (.list ((digs k 2 m).reverse.map PyData.int)) := by
    show some (PyData.list ((digs k 2 m).map PyData.int).reverse) = _
    rw [List.map_reverse]
  have ew : walkA (.list ((digs k 2 m).reverse.map PyData.int)) = some ((digs k 2 m).reverse.map PyData.int) := rfl
  have h2 := (size_facts n hn).1
  simp only [Ep_ret, Ep_opt, Ep_bind, Ep_bad, Ep_ite, Ep_C, Ep_nil, Ep_no, Ep_some, Ep_yes, Ep_Vm, Ep_cons, Ep_bin, Ep_un, Ep_ix, Ep_B, Ep_BF, Ep_tup, Ep_lst, Ep_lstF, Ep_bOf, Ep_and, Ep_or, Ep_not, Ep_eAnd, Ep_eOr, Ep_eNot, Ep_eIf, Ep_sl, Ep_fz, Ep_call, Ep_meth, Ep_rng1, Ep_rng2, Ep_rng3, Ep_iA, Ep_mut, Wp_nx, Wp_pass, Wp_brk, Wp_cnt, Wp_retN, Wp_seq, nxt_nx, nxt_rt, nxt_bk, nxt_ct, Wp_asg, Wp_set, Wp_own, Wp_dat, Wp_dic, Wp_ret, Wp_expr, Wp_if, Wp_par, Wp_par3, Wp_aug, Wp_for, Wp_while, Wp_setIx, gN_some, List.getElem?_cons_zero, List.getElem?_cons_succ, List.set_cons_zero, List.set_cons_succ, List.length_cons, List.length_nil, Option.some.injEq, exists_eq_left', exists_eq_left, true_and, and_true, if_true, if_false, eb]
  refine ⟨by simp, Rp1.of d1 ⟨_, er, _, ew, ?_⟩⟩
  refine W_forL (st := fun (s : Nat × Slot) => [.dat (fieldD n), .dat (.int x), .dat (.int k), .dat (.int (fpow n x s.1 : Nat)), s.2]) (step := fun s d => (2 * s.1 + (isInt d).toNat, .dat d)) (I := fun s => True) (0, .un) trivial (fun d hd s _ => ?_) (fun _ => ?_)
  · obtain ⟨z, hz, rfl⟩ := List.mem_map.mp hd
    have hz2 := digs_bd (b := 2) (by decide) m k z (List.mem_reverse.mp hz)
    have hp := fpow_lt hn hx s.1
    refine ⟨trivial, _, rfl, ?_⟩
    have e2 : fmul n (fpow n x s.1) (fpow n x s.1) = fpow n x (2 * s.1) := by
      have q := fpow_add hn hx s.1 s.1
      rw [show s.1 + s.1 = 2 * s.1 from by omega] at q
      exact q.symm
    by_cases h1 : z = 1
    · have hd : decide (z = 1) = true := by simp [h1]
      simp only [↓Ep_K, ↓Wp_K, ↓IteK_t, ↓IteK_f, ↓OpK_some, ↓AndK_t, ↓RsK_ok, ↓nxtK_nx, ↓nxtK_rt, ↓nxtK_bk, ↓nxtK_ct, ↓nxtK_ex, ↓VK_dat, ↓VK_own, ↓VK_dic, ↓X_V, ↓X_ret, ↓X_opt, ↓X_bind, ↓X_C, ↓X_nil, ↓X_no, ↓X_some, ↓X_yes, ↓X_cons, ↓X_bin, ↓X_un, ↓X_ix, ↓X_B, ↓X_BF, ↓X_binF, ↓X_tup, ↓X_lst, ↓X_lstF, ↓X_bOf, ↓X_and, ↓X_or, ↓X_not, ↓BoK_b, ↓X_eAnd, ↓X_eOr, ↓X_eNot, ↓X_eIf, ↓X_sl, ↓X_fz, ↓X_chain, ↓X_call, ↓X_meth, ↓X_rng1, ↓X_rng2, ↓X_rng3, ↓X_iA, ↓X_lr1, ↓X_lr2, ↓X_kget, ↓X_make, ↓X_get2, ↓X_get1, ↓X_eDic, ↓LsK_l, ↓X_idx, ↓X_VO, ↓X_BO, ↓X_BFO, ↓X_binO, ↓X_ixO, ↓MuK_own, ↓OwK_own, ↓X_mut, ↓Y_nx, ↓Y_pass, ↓Y_brk, ↓Y_cnt, ↓Y_retN, ↓Y_seq, ↓Y_asg, ↓Y_set, ↓Y_own, ↓Y_dat, ↓Y_dic, ↓Y_ret, ↓Y_expr, ↓Y_if, ↓Y_par, ↓Y_par3, ↓AuK_dat, ↓Y_aug, ↓Y_for, ↓Y_while, ↓Y_setIx, slotAt_eq, slotO_own, slotO_dic, g_N, g_two, g_three, g_T, g_L, g_nil, g_cons, Option.bind_some, Option.map_some, List.getElem?_cons_zero, List.getElem?_cons_succ, List.set_cons_zero, List.set_cons_succ, ↓X_W, ↓DrK_d, ↓WkK_d, ↓RwK_ok, ↓X_fzM, ↓X_prn, ↓X_prc, ↓X_disp, ↓X_vD, ↓X_vO, ↓X_vM, ↓Y_parK, asB_b, asI_i, eqD_ii, neD_ii, ltD_ii, leD_ii, gtD_ii, geD_ii, addD_ii, subD_ii, lenD_l, lenD_t, List.length_map, List.length_range, ↓lt_l0, ↓lt_ls, ↓le_l0, ↓le_ls, ↓ln_p, ↓eq_l0, ↓eq_ls, ↓sm_l, if_true, if_false, f_products hn, ix_tab hp, ix_row hp, e2, hd, ix_tab (fpow_lt hn hx (2 * s.1)), ix_row hx]
      subst h1
      exact .inl rfl
    · have hd : decide (z = 1) = false := by simp [h1]
      simp only [↓Ep_K, ↓Wp_K, ↓IteK_t, ↓IteK_f, ↓OpK_some, ↓AndK_t, ↓RsK_ok, ↓nxtK_nx, ↓nxtK_rt, ↓nxtK_bk, ↓nxtK_ct, ↓nxtK_ex, ↓VK_dat, ↓VK_own, ↓VK_dic, ↓X_V, ↓X_ret, ↓X_opt, ↓X_bind, ↓X_C, ↓X_nil, ↓X_no, ↓X_some, ↓X_yes, ↓X_cons, ↓X_bin, ↓X_un, ↓X_ix, ↓X_B, ↓X_BF, ↓X_binF, ↓X_tup, ↓X_lst, ↓X_lstF, ↓X_bOf, ↓X_and, ↓X_or, ↓X_not, ↓BoK_b, ↓X_eAnd, ↓X_eOr, ↓X_eNot, ↓X_eIf, ↓X_sl, ↓X_fz, ↓X_chain, ↓X_call, ↓X_meth, ↓X_rng1, ↓X_rng2, ↓X_rng3, ↓X_iA, ↓X_lr1, ↓X_lr2, ↓X_kget, ↓X_make, ↓X_get2, ↓X_get1, ↓X_eDic, ↓LsK_l, ↓X_idx, ↓X_VO, ↓X_BO, ↓X_BFO, ↓X_binO, ↓X_ixO, ↓MuK_own, ↓OwK_own, ↓X_mut, ↓Y_nx, ↓Y_pass, ↓Y_brk, ↓Y_cnt, ↓Y_retN, ↓Y_seq, ↓Y_asg, ↓Y_set, ↓Y_own, ↓Y_dat, ↓Y_dic, ↓Y_ret, ↓Y_expr, ↓Y_if, ↓Y_par, ↓Y_par3, ↓AuK_dat, ↓Y_aug, ↓Y_for, ↓Y_while, ↓Y_setIx, slotAt_eq, slotO_own, slotO_dic, g_N, g_two, g_three, g_T, g_L, g_nil, g_cons, Option.bind_some, Option.map_some, List.getElem?_cons_zero, List.getElem?_cons_succ, List.set_cons_zero, List.set_cons_succ, ↓X_W, ↓DrK_d, ↓WkK_d, ↓RwK_ok, ↓X_fzM, ↓X_prn, ↓X_prc, ↓X_disp, ↓X_vD, ↓X_vO, ↓X_vM, ↓Y_parK, asB_b, asI_i, eqD_ii, neD_ii, ltD_ii, leD_ii, gtD_ii, geD_ii, addD_ii, subD_ii, lenD_l, lenD_t, List.length_map, List.length_range, ↓lt_l0, ↓lt_ls, ↓le_l0, ↓le_ls, ↓ln_p, ↓eq_l0, ↓eq_ls, ↓sm_l, if_true, if_false, f_products hn, ix_tab hp, ix_row hp, e2, hd]
      have : z = 0 := by omega
      subst this
      exact .inl rfl
  · obtain ⟨t', e⟩ := pow_fold n x (digs k 2 m).reverse 0 .un
    rw [e]
    simp only [Ep_ret, Ep_opt, Ep_bind, Ep_bad, Ep_ite, Ep_C, Ep_nil, Ep_no, Ep_some, Ep_yes, Ep_Vm, Ep_cons, Ep_bin, Ep_un, Ep_ix, Ep_B, Ep_BF, Ep_tup, Ep_lst, Ep_lstF, Ep_bOf, Ep_and, Ep_or, Ep_not, Ep_eAnd, Ep_eOr, Ep_eNot, Ep_eIf, Ep_sl, Ep_fz, Ep_call, Ep_meth, Ep_rng1, Ep_rng2, Ep_rng3, Ep_iA, Ep_mut, Wp_nx, Wp_pass, Wp_brk, Wp_cnt, Wp_retN, Wp_seq, nxt_nx, nxt_rt, nxt_bk, nxt_ct, Wp_asg, Wp_set, Wp_own, Wp_dat, Wp_dic, Wp_ret, Wp_expr, Wp_if, Wp_par, Wp_par3, Wp_aug, Wp_for, Wp_while, Wp_setIx, gN_some, List.getElem?_cons_zero, List.getElem?_cons_succ, List.set_cons_zero, List.set_cons_succ, List.length_cons, List.length_nil, Option.some.injEq, exists_eq_left', exists_eq_left, true_and, and_true, if_true, if_false]
    have e3 := bits_fold (digs k 2 m).reverse 0 0 (fun z hz => digs_bd (by decide) m k z (List.mem_reverse.mp hz)) rfl
    have e4 : numOf 2 (digs k 2 m) = k := numOf_digs 2 (by decide) m k (by omega) (by exact_mod_cast hm.2)
    have e5 : (digs k 2 m).reverse.foldl (fun (acc d : Int) => acc * 2 + d) 0 = numOf 2 (digs k 2 m) := by
      rw [List.foldl_reverse]
      rfl
    rw [e5, e4] at e3
    have e6 : k = (digs k 2 m).reverse.foldl (fun e d => 2 * e + d.toNat) 0 := by exact_mod_cast e3
    rw [← e6]
end
end FW

namespace FW
open PySem PySem.Spec L2
open PyProof.Rows hiding St
/-! ### orders, generators, logs -/
def ford (n x : Nat) : Nat := ((List.range n).find? fun k => fpow n x (k + 1) == 1).getD 0 + 1
def fgens (n : Nat) : List Nat := ((List.range (n - 1)).map (1 + ·)).filter fun x => ford n x == n - 1
def flog (n g y : Nat) : Nat := ((List.range n).find? fun k => fpow n g k == y).getD 0
theorem ord_facts : ∀ n ∈ sizesN, ∀ x < n, x ≠ 0 → fpow n x (ford n x) = 1 ∧ ford n x < n ∧ ∀ k < ford n x - 1, fpow n x (k + 1) ≠ 1 := by decide +kernel
theorem log_facts : ∀ n ∈ sizesN, ∀ g ∈ fgens n, ∀ y < n, y ≠ 0 → fpow n g (flog n g y) = y ∧ flog n g y < n - 1 ∧ ∀ k < flog n g y, fpow n g k ≠ y := by decide +kernel
section
variable {n x y : Nat}
theorem fgens_lt {g : Nat} (h : g ∈ fgens n) : g < n ∧ g ≠ 0 := by
  unfold fgens at h
  have h1 := (List.mem_filter.mp h).1
  obtain ⟨k, hk, rfl⟩ := List.mem_map.mp h1
  have := List.mem_range.mp hk
  omega
theorem order_eq (hn : n ∈ sizesN) (hx : x < n) (h0 : x ≠ 0) : f_Field_order [fieldD n, .int x] = .ok (.int (ford n x : Nat)) := by
  refine RsK.eq (R_run2 ?_)
  show Wp b_Field_order [.dat (fieldD n), .dat (.int x), .un, .un] _
  unfold b_Field_order
  obtain ⟨o1, o2, o3⟩ := ord_facts n hn x hx h0
  have hf : 1 ≤ ford n x := by unfold ford; omega
  have h2 := size_facts n hn
  simp only [↓Ep_K, ↓Wp_K, ↓IteK_t, ↓IteK_f, ↓OpK_some, ↓AndK_t, ↓RsK_ok, ↓nxtK_nx, ↓nxtK_rt, ↓nxtK_bk, ↓nxtK_ct, ↓nxtK_ex, ↓VK_dat, ↓VK_own, ↓VK_dic, ↓X_V, ↓X_ret, ↓X_opt, ↓X_bind, ↓X_C, ↓X_nil, ↓X_no, ↓X_some, ↓X_yes, ↓X_cons, ↓X_bin, ↓X_un, ↓X_ix, ↓X_B, ↓X_BF, ↓X_binF, ↓X_tup, ↓X_lst, ↓X_lstF, ↓X_bOf, ↓X_and, ↓X_or, ↓X_not, ↓BoK_b, ↓X_eAnd, ↓X_eOr, ↓X_eNot, ↓X_eIf, ↓X_sl, ↓X_fz, ↓X_chain, ↓X_call, ↓X_meth, ↓X_rng1, ↓X_rng2, ↓X_rng3, ↓X_iA, ↓X_lr1, ↓X_lr2, ↓X_kget, ↓X_make, ↓X_get2, ↓X_get1, ↓X_eDic, ↓LsK_l, ↓X_idx, ↓X_VO, ↓X_BO, ↓X_BFO, ↓X_binO, ↓X_ixO, ↓MuK_own, ↓OwK_own, ↓X_mut, ↓Y_nx, ↓Y_pass, ↓Y_brk, ↓Y_cnt, ↓Y_retN, ↓Y_seq, ↓Y_asg, ↓Y_set, ↓Y_own, ↓Y_dat, ↓Y_dic, ↓Y_ret, ↓Y_expr, ↓Y_if, ↓Y_par, ↓Y_par3, ↓AuK_dat, ↓Y_aug, ↓Y_for, ↓Y_while, ↓Y_setIx, slotAt_eq, slotO_own, slotO_dic, g_N, g_two, g_three, g_T, g_L, g_nil, g_cons, Option.bind_some, Option.map_some, List.getElem?_cons_zero, List.getElem?_cons_succ, List.set_cons_zero, List.set_cons_succ, ↓X_W, ↓DrK_d, ↓WkK_d, ↓RwK_ok, ↓X_fzM, ↓X_prn, ↓X_prc, ↓X_disp, ↓X_vD, ↓X_vO, ↓X_vM, ↓Y_parK, asB_b, asI_i, eqD_ii, neD_ii, ltD_ii, leD_ii, gtD_ii, geD_ii, addD_ii, subD_ii, lenD_l, lenD_t, List.length_map, List.length_range, ↓lt_l0, ↓lt_ls, ↓le_l0, ↓le_ls, ↓ln_p, ↓eq_l0, ↓eq_ls, ↓sm_l, if_true, if_false]
  refine W_whileN (st := fun i => [.dat (fieldD n), .dat (.int x), .dat (.int (i + 1 : Nat)), .dat (.int (fpow n x (i + 1) : Nat))]) (ford n x - 1) ?_ (by omega) (fun i hi => ?_) (fun i hi => ?_) ?_ ?_
  · have : fpow n x (0 + 1) = x := (unit_facts n hn x hx).2.2.2.2.1
    rw [this]
    rfl
  · have hd : decide (((fpow n x (i + 1) : Nat) : Int) = 1) = false := by
      have := o3 i hi
      simp
      omega
    simp only [↓Ep_K, ↓Wp_K, ↓IteK_t, ↓IteK_f, ↓OpK_some, ↓AndK_t, ↓RsK_ok, ↓nxtK_nx, ↓nxtK_rt, ↓nxtK_bk, ↓nxtK_ct, ↓nxtK_ex, ↓VK_dat, ↓VK_own, ↓VK_dic, ↓X_V, ↓X_ret, ↓X_opt, ↓X_bind, ↓X_C, ↓X_nil, ↓X_no, ↓X_some, ↓X_yes, ↓X_cons, ↓X_bin, ↓X_un, ↓X_ix, ↓X_B, ↓X_BF, ↓X_binF, ↓X_tup, ↓X_lst, ↓X_lstF, ↓X_bOf, ↓X_and, ↓X_or, ↓X_not, ↓BoK_b, ↓X_eAnd, ↓X_eOr, ↓X_eNot, ↓X_eIf, ↓X_sl, ↓X_fz, ↓X_chain, ↓X_call, ↓X_meth, ↓X_rng1, ↓X_rng2, ↓X_rng3, ↓X_iA, ↓X_lr1, ↓X_lr2, ↓X_kget, ↓X_make, ↓X_get2, ↓X_get1, ↓X_eDic, ↓LsK_l, ↓X_idx, ↓X_VO, ↓X_BO, ↓X_BFO, ↓X_binO, ↓X_ixO, ↓MuK_own, ↓OwK_own, ↓X_mut, ↓Y_nx, ↓Y_pass, ↓Y_brk, ↓Y_cnt, ↓Y_retN, ↓Y_seq, ↓Y_asg, ↓Y_set, ↓Y_own, ↓Y_dat, ↓Y_dic, ↓Y_ret, ↓Y_expr, ↓Y_if, ↓Y_par, ↓Y_par3, ↓AuK_dat, ↓Y_aug, ↓Y_for, ↓Y_while, ↓Y_setIx, slotAt_eq, slotO_own, slotO_dic, g_N, g_two, g_three, g_T, g_L, g_nil, g_cons, Option.bind_some, Option.map_some, List.getElem?_cons_zero, List.getElem?_cons_succ, List.set_cons_zero, List.set_cons_succ, ↓X_W, ↓DrK_d, ↓WkK_d, ↓RwK_ok, ↓X_fzM, ↓X_prn, ↓X_prc, ↓X_disp, ↓X_vD, ↓X_vO, ↓X_vM, ↓Y_parK, asB_b, asI_i, eqD_ii, neD_ii, ltD_ii, leD_ii, gtD_ii, geD_ii, addD_ii, subD_ii, lenD_l, lenD_t, List.length_map, List.length_range, ↓lt_l0, ↓lt_ls, ↓le_l0, ↓le_ls, ↓ln_p, ↓eq_l0, ↓eq_ls, ↓sm_l, if_true, if_false, hd]
    exact ⟨rfl, trivial⟩
  · have hp := fpow_lt hn hx (i + 1)
    simp only [↓Ep_K, ↓Wp_K, ↓IteK_t, ↓IteK_f, ↓OpK_some, ↓AndK_t, ↓RsK_ok, ↓nxtK_nx, ↓nxtK_rt, ↓nxtK_bk, ↓nxtK_ct, ↓nxtK_ex, ↓VK_dat, ↓VK_own, ↓VK_dic, ↓X_V, ↓X_ret, ↓X_opt, ↓X_bind, ↓X_C, ↓X_nil, ↓X_no, ↓X_some, ↓X_yes, ↓X_cons, ↓X_bin, ↓X_un, ↓X_ix, ↓X_B, ↓X_BF, ↓X_binF, ↓X_tup, ↓X_lst, ↓X_lstF, ↓X_bOf, ↓X_and, ↓X_or, ↓X_not, ↓BoK_b, ↓X_eAnd, ↓X_eOr, ↓X_eNot, ↓X_eIf, ↓X_sl, ↓X_fz, ↓X_chain, ↓X_call, ↓X_meth, ↓X_rng1, ↓X_rng2, ↓X_rng3, ↓X_iA, ↓X_lr1, ↓X_lr2, ↓X_kget, ↓X_make, ↓X_get2, ↓X_get1, ↓X_eDic, ↓LsK_l, ↓X_idx, ↓X_VO, ↓X_BO, ↓X_BFO, ↓X_binO, ↓X_ixO, ↓MuK_own, ↓OwK_own, ↓X_mut, ↓Y_nx, ↓Y_pass, ↓Y_brk, ↓Y_cnt, ↓Y_retN, ↓Y_seq, ↓Y_asg, ↓Y_set, ↓Y_own, ↓Y_dat, ↓Y_dic, ↓Y_ret, ↓Y_expr, ↓Y_if, ↓Y_par, ↓Y_par3, ↓AuK_dat, ↓Y_aug, ↓Y_for, ↓Y_while, ↓Y_setIx, slotAt_eq, slotO_own, slotO_dic, g_N, g_two, g_three, g_T, g_L, g_nil, g_cons, Option.bind_some, Option.map_some, List.getElem?_cons_zero, List.getElem?_cons_succ, List.set_cons_zero, List.set_cons_succ, ↓X_W, ↓DrK_d, ↓WkK_d, ↓RwK_ok, ↓X_fzM, ↓X_prn, ↓X_prc, ↓X_disp, ↓X_vD, ↓X_vO, ↓X_vM, ↓Y_parK, asB_b, asI_i, eqD_ii, neD_ii, ltD_ii, leD_ii, gtD_ii, geD_ii, addD_ii, subD_ii, lenD_l, lenD_t, List.length_map, List.length_range, ↓lt_l0, ↓lt_ls, ↓le_l0, ↓le_ls, ↓ln_p, ↓eq_l0, ↓eq_ls, ↓sm_l, if_true, if_false, f_products hn, ix_tab hp, ix_row hx]
    exact .inl rfl
  · have hd : decide (((fpow n x (ford n x - 1 + 1) : Nat) : Int) = 1) = true := by
      rw [Nat.sub_add_cancel hf, o1]
      rfl
    simp only [↓Ep_K, ↓Wp_K, ↓IteK_t, ↓IteK_f, ↓OpK_some, ↓AndK_t, ↓RsK_ok, ↓nxtK_nx, ↓nxtK_rt, ↓nxtK_bk, ↓nxtK_ct, ↓nxtK_ex, ↓VK_dat, ↓VK_own, ↓VK_dic, ↓X_V, ↓X_ret, ↓X_opt, ↓X_bind, ↓X_C, ↓X_nil, ↓X_no, ↓X_some, ↓X_yes, ↓X_cons, ↓X_bin, ↓X_un, ↓X_ix, ↓X_B, ↓X_BF, ↓X_binF, ↓X_tup, ↓X_lst, ↓X_lstF, ↓X_bOf, ↓X_and, ↓X_or, ↓X_not, ↓BoK_b, ↓X_eAnd, ↓X_eOr, ↓X_eNot, ↓X_eIf, ↓X_sl, ↓X_fz, ↓X_chain, ↓X_call, ↓X_meth, ↓X_rng1, ↓X_rng2, ↓X_rng3, ↓X_iA, ↓X_lr1, ↓X_lr2, ↓X_kget, ↓X_make, ↓X_get2, ↓X_get1, ↓X_eDic, ↓LsK_l, ↓X_idx, ↓X_VO, ↓X_BO, ↓X_BFO, ↓X_binO, ↓X_ixO, ↓MuK_own, ↓OwK_own, ↓X_mut, ↓Y_nx, ↓Y_pass, ↓Y_brk, ↓Y_cnt, ↓Y_retN, ↓Y_seq, ↓Y_asg, ↓Y_set, ↓Y_own, ↓Y_dat, ↓Y_dic, ↓Y_ret, ↓Y_expr, ↓Y_if, ↓Y_par, ↓Y_par3, ↓AuK_dat, ↓Y_aug, ↓Y_for, ↓Y_while, ↓Y_setIx, slotAt_eq, slotO_own, slotO_dic, g_N, g_two, g_three, g_T, g_L, g_nil, g_cons, Option.bind_some, Option.map_some, List.getElem?_cons_zero, List.getElem?_cons_succ, List.set_cons_zero, List.set_cons_succ, ↓X_W, ↓DrK_d, ↓WkK_d, ↓RwK_ok, ↓X_fzM, ↓X_prn, ↓X_prc, ↓X_disp, ↓X_vD, ↓X_vO, ↓X_vM, ↓Y_parK, asB_b, asI_i, eqD_ii, neD_ii, ltD_ii, leD_ii, gtD_ii, geD_ii, addD_ii, subD_ii, lenD_l, lenD_t, List.length_map, List.length_range, ↓lt_l0, ↓lt_ls, ↓le_l0, ↓le_ls, ↓ln_p, ↓eq_l0, ↓eq_ls, ↓sm_l, if_true, if_false, hd]
    exact ⟨rfl, trivial⟩
  · simp only [↓Ep_K, ↓Wp_K, ↓IteK_t, ↓IteK_f, ↓OpK_some, ↓AndK_t, ↓RsK_ok, ↓nxtK_nx, ↓nxtK_rt, ↓nxtK_bk, ↓nxtK_ct, ↓nxtK_ex, ↓VK_dat, ↓VK_own, ↓VK_dic, ↓X_V, ↓X_ret, ↓X_opt, ↓X_bind, ↓X_C, ↓X_nil, ↓X_no, ↓X_some, ↓X_yes, ↓X_cons, ↓X_bin, ↓X_un, ↓X_ix, ↓X_B, ↓X_BF, ↓X_binF, ↓X_tup, ↓X_lst, ↓X_lstF, ↓X_bOf, ↓X_and, ↓X_or, ↓X_not, ↓BoK_b, ↓X_eAnd, ↓X_eOr, ↓X_eNot, ↓X_eIf, ↓X_sl, ↓X_fz, ↓X_chain, ↓X_call, ↓X_meth, ↓X_rng1, ↓X_rng2, ↓X_rng3, ↓X_iA, ↓X_lr1, ↓X_lr2, ↓X_kget, ↓X_make, ↓X_get2, ↓X_get1, ↓X_eDic, ↓LsK_l, ↓X_idx, ↓X_VO, ↓X_BO, ↓X_BFO, ↓X_binO, ↓X_ixO, ↓MuK_own, ↓OwK_own, ↓X_mut, ↓Y_nx, ↓Y_pass, ↓Y_brk, ↓Y_cnt, ↓Y_retN, ↓Y_seq, ↓Y_asg, ↓Y_set, ↓Y_own, ↓Y_dat, ↓Y_dic, ↓Y_ret, ↓Y_expr, ↓Y_if, ↓Y_par, ↓Y_par3, ↓AuK_dat, ↓Y_aug, ↓Y_for, ↓Y_while, ↓Y_setIx, slotAt_eq, slotO_own, slotO_dic, g_N, g_two, g_three, g_T, g_L, g_nil, g_cons, Option.bind_some, Option.map_some, List.getElem?_cons_zero, List.getElem?_cons_succ, List.set_cons_zero, List.set_cons_succ, ↓X_W, ↓DrK_d, ↓WkK_d, ↓RwK_ok, ↓X_fzM, ↓X_prn, ↓X_prc, ↓X_disp, ↓X_vD, ↓X_vO, ↓X_vM, ↓Y_parK, asB_b, asI_i, eqD_ii, neD_ii, ltD_ii, leD_ii, gtD_ii, geD_ii, addD_ii, subD_ii, lenD_l, lenD_t, List.length_map, List.length_range, ↓lt_l0, ↓lt_ls, ↓le_l0, ↓le_ls, ↓ln_p, ↓eq_l0, ↓eq_ls, ↓sm_l, if_true, if_false]
    rw [Nat.sub_add_cancel hf]
theorem log_eq {g : Nat} (hn : n ∈ sizesN) (hg : g ∈ fgens n) (hy : y < n) (h0 : y ≠ 0) : f_Field_log [fieldD n, .int g, .int y] = .ok (.int (flog n g y : Nat)) := by
  refine RsK.eq (R_run2 ?_)
  show Wp b_Field_log [.dat (fieldD n), .dat (.int g), .dat (.int y), .un, .un] _
  unfold b_Field_log
  obtain ⟨o1, o2, o3⟩ := log_facts n hn g hg y hy h0
  have hgl := fgens_lt hg
  have h2 := size_facts n hn
  simp only [↓Ep_K, ↓Wp_K, ↓IteK_t, ↓IteK_f, ↓OpK_some, ↓AndK_t, ↓RsK_ok, ↓nxtK_nx, ↓nxtK_rt, ↓nxtK_bk, ↓nxtK_ct, ↓nxtK_ex, ↓VK_dat, ↓VK_own, ↓VK_dic, ↓X_V, ↓X_ret, ↓X_opt, ↓X_bind, ↓X_C, ↓X_nil, ↓X_no, ↓X_some, ↓X_yes, ↓X_cons, ↓X_bin, ↓X_un, ↓X_ix, ↓X_B, ↓X_BF, ↓X_binF, ↓X_tup, ↓X_lst, ↓X_lstF, ↓X_bOf, ↓X_and, ↓X_or, ↓X_not, ↓BoK_b, ↓X_eAnd, ↓X_eOr, ↓X_eNot, ↓X_eIf, ↓X_sl, ↓X_fz, ↓X_chain, ↓X_call, ↓X_meth, ↓X_rng1, ↓X_rng2, ↓X_rng3, ↓X_iA, ↓X_lr1, ↓X_lr2, ↓X_kget, ↓X_make, ↓X_get2, ↓X_get1, ↓X_eDic, ↓LsK_l, ↓X_idx, ↓X_VO, ↓X_BO, ↓X_BFO, ↓X_binO, ↓X_ixO, ↓MuK_own, ↓OwK_own, ↓X_mut, ↓Y_nx, ↓Y_pass, ↓Y_brk, ↓Y_cnt, ↓Y_retN, ↓Y_seq, ↓Y_asg, ↓Y_set, ↓Y_own, ↓Y_dat, ↓Y_dic, ↓Y_ret, ↓Y_expr, ↓Y_if, ↓Y_par, ↓Y_par3, ↓AuK_dat, ↓Y_aug, ↓Y_for, ↓Y_while, ↓Y_setIx, slotAt_eq, slotO_own, slotO_dic, g_N, g_two, g_three, g_T, g_L, g_nil, g_cons, Option.bind_some, Option.map_some, List.getElem?_cons_zero, List.getElem?_cons_succ, List.set_cons_zero, List.set_cons_succ, ↓X_W, ↓DrK_d, ↓WkK_d, ↓RwK_ok, ↓X_fzM, ↓X_prn, ↓X_prc, ↓X_disp, ↓X_vD, ↓X_vO, ↓X_vM, ↓Y_parK, asB_b, asI_i, eqD_ii, neD_ii, ltD_ii, leD_ii, gtD_ii, geD_ii, addD_ii, subD_ii, lenD_l, lenD_t, List.length_map, List.length_range, ↓lt_l0, ↓lt_ls, ↓le_l0, ↓le_ls, ↓ln_p, ↓eq_l0, ↓eq_ls, ↓sm_l, if_true, if_false]
  refine W_whileN (st := fun i => [.dat (fieldD n), .dat (.int g), .dat (.int y), .dat (.int (i : Nat)), .dat (.int (fpow n g i : Nat))]) (flog n g y) rfl (by omega) (fun i hi => ?_) (fun i hi => ?_) ?_ ?_
  · have hd : decide (((fpow n g i : Nat) : Int) = y) = false := by
      have := o3 i hi
      simp
      omega
    simp only [↓Ep_K, ↓Wp_K, ↓IteK_t, ↓IteK_f, ↓OpK_some, ↓AndK_t, ↓RsK_ok, ↓nxtK_nx, ↓nxtK_rt, ↓nxtK_bk, ↓nxtK_ct, ↓nxtK_ex, ↓VK_dat, ↓VK_own, ↓VK_dic, ↓X_V, ↓X_ret, ↓X_opt, ↓X_bind, ↓X_C, ↓X_nil, ↓X_no, ↓X_some, ↓X_yes, ↓X_cons, ↓X_bin, ↓X_un, ↓X_ix, ↓X_B, ↓X_BF, ↓X_binF, ↓X_tup, ↓X_lst, ↓X_lstF, ↓X_bOf, ↓X_and, ↓X_or, ↓X_not, ↓BoK_b, ↓X_eAnd, ↓X_eOr, ↓X_eNot, ↓X_eIf, ↓X_sl, ↓X_fz, ↓X_chain, ↓X_call, ↓X_meth, ↓X_rng1, ↓X_rng2, ↓X_rng3, ↓X_iA, ↓X_lr1, ↓X_lr2, ↓X_kget, ↓X_make, ↓X_get2, ↓X_get1, ↓X_eDic, ↓LsK_l, ↓X_idx, ↓X_VO, ↓X_BO, ↓X_BFO, ↓X_binO, ↓X_ixO, ↓MuK_own, ↓OwK_own, ↓X_mut, ↓Y_nx, ↓Y_pass, ↓Y_brk, ↓Y_cnt, ↓Y_retN, ↓Y_seq, ↓Y_asg, ↓Y_set, ↓Y_own, ↓Y_dat, ↓Y_dic, ↓Y_ret, ↓Y_expr, ↓Y_if, ↓Y_par, ↓Y_par3, ↓AuK_dat, ↓Y_aug, ↓Y_for, ↓Y_while, ↓Y_setIx, slotAt_eq, slotO_own, slotO_dic, g_N, g_two, g_three, g_T, g_L, g_nil, g_cons, Option.bind_some, Option.map_some, List.getElem?_cons_zero, List.getElem?_cons_succ, List.set_cons_zero, List.set_cons_succ, ↓X_W, ↓DrK_d, ↓WkK_d, ↓RwK_ok, ↓X_fzM, ↓X_prn, ↓X_prc, ↓X_disp, ↓X_vD, ↓X_vO, ↓X_vM, ↓Y_parK, asB_b, asI_i, eqD_ii, neD_ii, ltD_ii, leD_ii, gtD_ii, geD_ii, addD_ii, subD_ii, lenD_l, lenD_t, List.length_map, List.length_range, ↓lt_l0, ↓lt_ls, ↓le_l0, ↓le_ls, ↓ln_p, ↓eq_l0, ↓eq_ls, ↓sm_l, if_true, if_false, hd]
    exact ⟨rfl, trivial⟩
  · have hp := fpow_lt hn hgl.1 i
    simp only [↓Ep_K, ↓Wp_K, ↓IteK_t, ↓IteK_f, ↓OpK_some, ↓AndK_t, ↓RsK_ok, ↓nxtK_nx, ↓nxtK_rt, ↓nxtK_bk, ↓nxtK_ct, ↓nxtK_ex, ↓VK_dat, ↓VK_own, ↓VK_dic, ↓X_V, ↓X_ret, ↓X_opt, ↓X_bind, ↓X_C, ↓X_nil, ↓X_no, ↓X_some, ↓X_yes, ↓X_cons, ↓X_bin, ↓X_un, ↓X_ix, ↓X_B, ↓X_BF, ↓X_binF, ↓X_tup, ↓X_lst, ↓X_lstF, ↓X_bOf, ↓X_and, ↓X_or, ↓X_not, ↓BoK_b, ↓X_eAnd, ↓X_eOr, ↓X_eNot, ↓X_eIf, ↓X_sl, ↓X_fz, ↓X_chain, ↓X_call, ↓X_meth, ↓X_rng1, ↓X_rng2, ↓X_rng3, ↓X_iA, ↓X_lr1, ↓X_lr2, ↓X_kget, ↓X_make, ↓X_get2, ↓X_get1, ↓X_eDic, ↓LsK_l, ↓X_idx, ↓X_VO, ↓X_BO, ↓X_BFO, ↓X_binO, ↓X_ixO, ↓MuK_own, ↓OwK_own, ↓X_mut, ↓Y_nx, ↓Y_pass, ↓Y_brk, ↓Y_cnt, ↓Y_retN, ↓Y_seq, ↓Y_asg, ↓Y_set, ↓Y_own, ↓Y_dat, ↓Y_dic, ↓Y_ret, ↓Y_expr, ↓Y_if, ↓Y_par, ↓Y_par3, ↓AuK_dat, ↓Y_aug, ↓Y_for, ↓Y_while, ↓Y_setIx, slotAt_eq, slotO_own, slotO_dic, g_N, g_two, g_three, g_T, g_L, g_nil, g_cons, Option.bind_some, Option.map_some, List.getElem?_cons_zero, List.getElem?_cons_succ, List.set_cons_zero, List.set_cons_succ, ↓X_W, ↓DrK_d, ↓WkK_d, ↓RwK_ok, ↓X_fzM, ↓X_prn, ↓X_prc, ↓X_disp, ↓X_vD, ↓X_vO, ↓X_vM, ↓Y_parK, asB_b, asI_i, eqD_ii, neD_ii, ltD_ii, leD_ii, gtD_ii, geD_ii, addD_ii, subD_ii, lenD_l, lenD_t, List.length_map, List.length_range, ↓lt_l0, ↓lt_ls, ↓le_l0, ↓le_ls, ↓ln_p, ↓eq_l0, ↓eq_ls, ↓sm_l, if_true, if_false, f_products hn, ix_tab hp, ix_row hgl.1]
    exact .inl rfl
  · have hd : decide (((fpow n g (flog n g y) : Nat) : Int) = y) = true := by
      rw [o1]
      simp
    simp only [↓Ep_K, ↓Wp_K, ↓IteK_t, ↓IteK_f, ↓OpK_some, ↓AndK_t, ↓RsK_ok, ↓nxtK_nx, ↓nxtK_rt, ↓nxtK_bk, ↓nxtK_ct, ↓nxtK_ex, ↓VK_dat, ↓VK_own, ↓VK_dic, ↓X_V, ↓X_ret, ↓X_opt, ↓X_bind, ↓X_C, ↓X_nil, ↓X_no, ↓X_some, ↓X_yes, ↓X_cons, ↓X_bin, ↓X_un, ↓X_ix, ↓X_B, ↓X_BF, ↓X_binF, ↓X_tup, ↓X_lst, ↓X_lstF, ↓X_bOf, ↓X_and, ↓X_or, ↓X_not, ↓BoK_b, ↓X_eAnd, ↓X_eOr, ↓X_eNot, ↓X_eIf, ↓X_sl, ↓X_fz, ↓X_chain, ↓X_call, ↓X_meth, ↓X_rng1, ↓X_rng2, ↓X_rng3, ↓X_iA, ↓X_lr1, ↓X_lr2, ↓X_kget, ↓X_make, ↓X_get2, ↓X_get1, ↓X_eDic, ↓LsK_l, ↓X_idx, ↓X_VO, ↓X_BO, ↓X_BFO, ↓X_binO, ↓X_ixO, ↓MuK_own, ↓OwK_own, ↓X_mut, ↓Y_nx, ↓Y_pass, ↓Y_brk, ↓Y_cnt, ↓Y_retN, ↓Y_seq, ↓Y_asg, ↓Y_set, ↓Y_own, ↓Y_dat, ↓Y_dic, ↓Y_ret, ↓Y_expr, ↓Y_if, ↓Y_par, ↓Y_par3, ↓AuK_dat, ↓Y_aug, ↓Y_for, ↓Y_while, ↓Y_setIx, slotAt_eq, slotO_own, slotO_dic, g_N, g_two, g_three, g_T, g_L, g_nil, g_cons, Option.bind_some, Option.map_some, List.getElem?_cons_zero, List.getElem?_cons_succ, List.set_cons_zero, List.set_cons_succ, ↓X_W, ↓DrK_d, ↓WkK_d, ↓RwK_ok, ↓X_fzM, ↓X_prn, ↓X_prc, ↓X_disp, ↓X_vD, ↓X_vO, ↓X_vM, ↓Y_parK, asB_b, asI_i, eqD_ii, neD_ii, ltD_ii, leD_ii, gtD_ii, geD_ii, addD_ii, subD_ii, lenD_l, lenD_t, List.length_map, List.length_range, ↓lt_l0, ↓lt_ls, ↓le_l0, ↓le_ls, ↓ln_p, ↓eq_l0, ↓eq_ls, ↓sm_l, if_true, if_false, hd]
    exact ⟨rfl, trivial⟩
  · simp only [↓Ep_K, ↓Wp_K, ↓IteK_t, ↓IteK_f, ↓OpK_some, ↓AndK_t, ↓RsK_ok, ↓nxtK_nx, ↓nxtK_rt, ↓nxtK_bk, ↓nxtK_ct, ↓nxtK_ex, ↓VK_dat, ↓VK_own, ↓VK_dic, ↓X_V, ↓X_ret, ↓X_opt, ↓X_bind, ↓X_C, ↓X_nil, ↓X_no, ↓X_some, ↓X_yes, ↓X_cons, ↓X_bin, ↓X_un, ↓X_ix, ↓X_B, ↓X_BF, ↓X_binF, ↓X_tup, ↓X_lst, ↓X_lstF, ↓X_bOf, ↓X_and, ↓X_or, ↓X_not, ↓BoK_b, ↓X_eAnd, ↓X_eOr, ↓X_eNot, ↓X_eIf, ↓X_sl, ↓X_fz, ↓X_chain, ↓X_call, ↓X_meth, ↓X_rng1, ↓X_rng2, ↓X_rng3, ↓X_iA, ↓X_lr1, ↓X_lr2, ↓X_kget, ↓X_make, ↓X_get2, ↓X_get1, ↓X_eDic, ↓LsK_l, ↓X_idx, ↓X_VO, ↓X_BO, ↓X_BFO, ↓X_binO, ↓X_ixO, ↓MuK_own, ↓OwK_own, ↓X_mut, ↓Y_nx, ↓Y_pass, ↓Y_brk, ↓Y_cnt, ↓Y_retN, ↓Y_seq, ↓Y_asg, ↓Y_set, ↓Y_own, ↓Y_dat, ↓Y_dic, ↓Y_ret, ↓Y_expr, ↓Y_if, ↓Y_par, ↓Y_par3, ↓AuK_dat, ↓Y_aug, ↓Y_for, ↓Y_while, ↓Y_setIx, slotAt_eq, slotO_own, slotO_dic, g_N, g_two, g_three, g_T, g_L, g_nil, g_cons, Option.bind_some, Option.map_some, List.getElem?_cons_zero, List.getElem?_cons_succ, List.set_cons_zero, List.set_cons_succ, ↓X_W, ↓DrK_d, ↓WkK_d, ↓RwK_ok, ↓X_fzM, ↓X_prn, ↓X_prc, ↓X_disp, ↓X_vD, ↓X_vO, ↓X_vM, ↓Y_parK, asB_b, asI_i, eqD_ii, neD_ii, ltD_ii, leD_ii, gtD_ii, geD_ii, addD_ii, subD_ii, lenD_l, lenD_t, List.length_map, List.length_range, ↓lt_l0, ↓lt_ls, ↓le_l0, ↓le_ls, ↓ln_p, ↓eq_l0, ↓eq_ls, ↓sm_l, if_true, if_false]
theorem generators_eq (hn : n ∈ sizesN) : f_Field_generators [fieldD n] = .ok (.list ((fgens n).map nI)) := by
  refine RsK.eq (R_run2 ?_)
  show Wp b_Field_generators [.dat (fieldD n), .un] _
  unfold b_Field_generators
  have h2 := size_facts n hn
  simp only [↓Ep_K, ↓Wp_K, ↓IteK_t, ↓IteK_f, ↓OpK_some, ↓AndK_t, ↓RsK_ok, ↓nxtK_nx, ↓nxtK_rt, ↓nxtK_bk, ↓nxtK_ct, ↓nxtK_ex, ↓VK_dat, ↓VK_own, ↓VK_dic, ↓X_V, ↓X_ret, ↓X_opt, ↓X_bind, ↓X_C, ↓X_nil, ↓X_no, ↓X_some, ↓X_yes, ↓X_cons, ↓X_bin, ↓X_un, ↓X_ix, ↓X_B, ↓X_BF, ↓X_binF, ↓X_tup, ↓X_lst, ↓X_lstF, ↓X_bOf, ↓X_and, ↓X_or, ↓X_not, ↓BoK_b, ↓X_eAnd, ↓X_eOr, ↓X_eNot, ↓X_eIf, ↓X_sl, ↓X_fz, ↓X_chain, ↓X_call, ↓X_meth, ↓X_rng1, ↓X_rng2, ↓X_rng3, ↓X_iA, ↓X_lr1, ↓X_lr2, ↓X_kget, ↓X_make, ↓X_get2, ↓X_get1, ↓X_eDic, ↓LsK_l, ↓X_idx, ↓X_VO, ↓X_BO, ↓X_BFO, ↓X_binO, ↓X_ixO, ↓MuK_own, ↓OwK_own, ↓X_mut, ↓Y_nx, ↓Y_pass, ↓Y_brk, ↓Y_cnt, ↓Y_retN, ↓Y_seq, ↓Y_asg, ↓Y_set, ↓Y_own, ↓Y_dat, ↓Y_dic, ↓Y_ret, ↓Y_expr, ↓Y_if, ↓Y_par, ↓Y_par3, ↓AuK_dat, ↓Y_aug, ↓Y_for, ↓Y_while, ↓Y_setIx, slotAt_eq, slotO_own, slotO_dic, g_N, g_two, g_three, g_T, g_L, g_nil, g_cons, Option.bind_some, Option.map_some, List.getElem?_cons_zero, List.getElem?_cons_succ, List.set_cons_zero, List.set_cons_succ, ↓X_W, ↓DrK_d, ↓WkK_d, ↓RwK_ok, ↓X_fzM, ↓X_prn, ↓X_prc, ↓X_disp, ↓X_vD, ↓X_vO, ↓X_vM, ↓Y_parK, asB_b, asI_i, eqD_ii, neD_ii, ltD_ii, leD_ii, gtD_ii, geD_ii, addD_ii, subD_ii, lenD_l, lenD_t, List.length_map, List.length_range, ↓lt_l0, ↓lt_ls, ↓le_l0, ↓le_ls, ↓ln_p, ↓eq_l0, ↓eq_ls, ↓sm_l, if_true, if_false]
  refine E_sel ((List.range (n - 1)).map fun k => nI (1 + k)) (fun d => match d with | .int k => ford n k.toNat == n - 1 | _ => false) id ?_ (by simp) rfl (by simp; omega) (fun d hd => ?_) (fun d hd => ?_) ?_
  · simp only [↓Ep_K, ↓Wp_K, ↓IteK_t, ↓IteK_f, ↓OpK_some, ↓AndK_t, ↓RsK_ok, ↓nxtK_nx, ↓nxtK_rt, ↓nxtK_bk, ↓nxtK_ct, ↓nxtK_ex, ↓VK_dat, ↓VK_own, ↓VK_dic, ↓X_V, ↓X_ret, ↓X_opt, ↓X_bind, ↓X_C, ↓X_nil, ↓X_no, ↓X_some, ↓X_yes, ↓X_cons, ↓X_bin, ↓X_un, ↓X_ix, ↓X_B, ↓X_BF, ↓X_binF, ↓X_tup, ↓X_lst, ↓X_lstF, ↓X_bOf, ↓X_and, ↓X_or, ↓X_not, ↓BoK_b, ↓X_eAnd, ↓X_eOr, ↓X_eNot, ↓X_eIf, ↓X_sl, ↓X_fz, ↓X_chain, ↓X_call, ↓X_meth, ↓X_rng1, ↓X_rng2, ↓X_rng3, ↓X_iA, ↓X_lr1, ↓X_lr2, ↓X_kget, ↓X_make, ↓X_get2, ↓X_get1, ↓X_eDic, ↓LsK_l, ↓X_idx, ↓X_VO, ↓X_BO, ↓X_BFO, ↓X_binO, ↓X_ixO, ↓MuK_own, ↓OwK_own, ↓X_mut, ↓Y_nx, ↓Y_pass, ↓Y_brk, ↓Y_cnt, ↓Y_retN, ↓Y_seq, ↓Y_asg, ↓Y_set, ↓Y_own, ↓Y_dat, ↓Y_dic, ↓Y_ret, ↓Y_expr, ↓Y_if, ↓Y_par, ↓Y_par3, ↓AuK_dat, ↓Y_aug, ↓Y_for, ↓Y_while, ↓Y_setIx, slotAt_eq, slotO_own, slotO_dic, g_N, g_two, g_three, g_T, g_L, g_nil, g_cons, Option.bind_some, Option.map_some, List.getElem?_cons_zero, List.getElem?_cons_succ, List.set_cons_zero, List.set_cons_succ, ↓X_W, ↓DrK_d, ↓WkK_d, ↓RwK_ok, ↓X_fzM, ↓X_prn, ↓X_prc, ↓X_disp, ↓X_vD, ↓X_vO, ↓X_vM, ↓Y_parK, asB_b, asI_i, eqD_ii, neD_ii, ltD_ii, leD_ii, gtD_ii, geD_ii, addD_ii, subD_ii, lenD_l, lenD_t, List.length_map, List.length_range, ↓lt_l0, ↓lt_ls, ↓le_l0, ↓le_ls, ↓ln_p, ↓eq_l0, ↓eq_ls, ↓sm_l, if_true, if_false, f_fsize, rng2_1 (show n < 2 ^ 62 by omega), and_self]
  · obtain ⟨k, hk, rfl⟩ := List.mem_map.mp hd
    have hk := List.mem_range.mp hk
    have ho := order_eq hn (show 1 + k < n by omega) (by omega)
    have hob : isOb "Field" "order" (fieldD n) = true := rfl
    simp only [↓Ep_K, ↓Wp_K, ↓IteK_t, ↓IteK_f, ↓OpK_some, ↓AndK_t, ↓RsK_ok, ↓nxtK_nx, ↓nxtK_rt, ↓nxtK_bk, ↓nxtK_ct, ↓nxtK_ex, ↓VK_dat, ↓VK_own, ↓VK_dic, ↓X_V, ↓X_ret, ↓X_opt, ↓X_bind, ↓X_C, ↓X_nil, ↓X_no, ↓X_some, ↓X_yes, ↓X_cons, ↓X_bin, ↓X_un, ↓X_ix, ↓X_B, ↓X_BF, ↓X_binF, ↓X_tup, ↓X_lst, ↓X_lstF, ↓X_bOf, ↓X_and, ↓X_or, ↓X_not, ↓BoK_b, ↓X_eAnd, ↓X_eOr, ↓X_eNot, ↓X_eIf, ↓X_sl, ↓X_fz, ↓X_chain, ↓X_call, ↓X_meth, ↓X_rng1, ↓X_rng2, ↓X_rng3, ↓X_iA, ↓X_lr1, ↓X_lr2, ↓X_kget, ↓X_make, ↓X_get2, ↓X_get1, ↓X_eDic, ↓LsK_l, ↓X_idx, ↓X_VO, ↓X_BO, ↓X_BFO, ↓X_binO, ↓X_ixO, ↓MuK_own, ↓OwK_own, ↓X_mut, ↓Y_nx, ↓Y_pass, ↓Y_brk, ↓Y_cnt, ↓Y_retN, ↓Y_seq, ↓Y_asg, ↓Y_set, ↓Y_own, ↓Y_dat, ↓Y_dic, ↓Y_ret, ↓Y_expr, ↓Y_if, ↓Y_par, ↓Y_par3, ↓AuK_dat, ↓Y_aug, ↓Y_for, ↓Y_while, ↓Y_setIx, slotAt_eq, slotO_own, slotO_dic, g_N, g_two, g_three, g_T, g_L, g_nil, g_cons, Option.bind_some, Option.map_some, List.getElem?_cons_zero, List.getElem?_cons_succ, List.set_cons_zero, List.set_cons_succ, ↓X_W, ↓DrK_d, ↓WkK_d, ↓RwK_ok, ↓X_fzM, ↓X_prn, ↓X_prc, ↓X_disp, ↓X_vD, ↓X_vO, ↓X_vM, ↓Y_parK, asB_b, asI_i, eqD_ii, neD_ii, ltD_ii, leD_ii, gtD_ii, geD_ii, addD_ii, subD_ii, lenD_l, lenD_t, List.length_map, List.length_range, ↓lt_l0, ↓lt_ls, ↓le_l0, ↓le_ls, ↓ln_p, ↓eq_l0, ↓eq_ls, ↓sm_l, if_true, if_false, nI_eq, hob, ho, f_fsize]
    refine ⟨?_, trivial⟩
    have : (((1 + k : Nat) : Int)).toNat = 1 + k := by omega
    rw [this]
    rw [Bool.eq_iff_iff]
    simp
    omega
  · obtain ⟨k, hk, rfl⟩ := List.mem_map.mp hd
    simp only [↓Ep_K, ↓Wp_K, ↓IteK_t, ↓IteK_f, ↓OpK_some, ↓AndK_t, ↓RsK_ok, ↓nxtK_nx, ↓nxtK_rt, ↓nxtK_bk, ↓nxtK_ct, ↓nxtK_ex, ↓VK_dat, ↓VK_own, ↓VK_dic, ↓X_V, ↓X_ret, ↓X_opt, ↓X_bind, ↓X_C, ↓X_nil, ↓X_no, ↓X_some, ↓X_yes, ↓X_cons, ↓X_bin, ↓X_un, ↓X_ix, ↓X_B, ↓X_BF, ↓X_binF, ↓X_tup, ↓X_lst, ↓X_lstF, ↓X_bOf, ↓X_and, ↓X_or, ↓X_not, ↓BoK_b, ↓X_eAnd, ↓X_eOr, ↓X_eNot, ↓X_eIf, ↓X_sl, ↓X_fz, ↓X_chain, ↓X_call, ↓X_meth, ↓X_rng1, ↓X_rng2, ↓X_rng3, ↓X_iA, ↓X_lr1, ↓X_lr2, ↓X_kget, ↓X_make, ↓X_get2, ↓X_get1, ↓X_eDic, ↓LsK_l, ↓X_idx, ↓X_VO, ↓X_BO, ↓X_BFO, ↓X_binO, ↓X_ixO, ↓MuK_own, ↓OwK_own, ↓X_mut, ↓Y_nx, ↓Y_pass, ↓Y_brk, ↓Y_cnt, ↓Y_retN, ↓Y_seq, ↓Y_asg, ↓Y_set, ↓Y_own, ↓Y_dat, ↓Y_dic, ↓Y_ret, ↓Y_expr, ↓Y_if, ↓Y_par, ↓Y_par3, ↓AuK_dat, ↓Y_aug, ↓Y_for, ↓Y_while, ↓Y_setIx, slotAt_eq, slotO_own, slotO_dic, g_N, g_two, g_three, g_T, g_L, g_nil, g_cons, Option.bind_some, Option.map_some, List.getElem?_cons_zero, List.getElem?_cons_succ, List.set_cons_zero, List.set_cons_succ, ↓X_W, ↓DrK_d, ↓WkK_d, ↓RwK_ok, ↓X_fzM, ↓X_prn, ↓X_prc, ↓X_disp, ↓X_vD, ↓X_vO, ↓X_vM, ↓Y_parK, asB_b, asI_i, eqD_ii, neD_ii, ltD_ii, leD_ii, gtD_ii, geD_ii, addD_ii, subD_ii, lenD_l, lenD_t, List.length_map, List.length_range, ↓lt_l0, ↓lt_ls, ↓le_l0, ↓le_ls, ↓ln_p, ↓eq_l0, ↓eq_ls, ↓sm_l, if_true, if_false, nI_eq]
    exact fun _ => ⟨rfl, trivial⟩
  · show PyData.list _ = _
    unfold fgens
    congr 1
    rw [List.map_id, List.filter_map, List.filter_map, List.map_map]
    rfl
end
end FW

namespace FW
open PySem PySem.Spec L2
open PyProof.Rows hiding St
theorem is_whole_eq {d : D} {lo hi : Int} (hd : notDict d = true) : f_is_whole [d, .int lo, .int hi] = .ok (.bool (wholeB lo hi d)) := by
  refine RsK.eq (R_run2 ?_)
  show Wp b_is_whole [.dat d, .dat (.int lo), .dat (.int hi)] _
  unfold b_is_whole
  cases d with
  | int i =>
    simp only [↓Ep_K, ↓Wp_K, ↓IteK_t, ↓IteK_f, ↓OpK_some, ↓AndK_t, ↓RsK_ok, ↓nxtK_nx, ↓nxtK_rt, ↓nxtK_bk, ↓nxtK_ct, ↓nxtK_ex, ↓VK_dat, ↓VK_own, ↓VK_dic, ↓X_V, ↓X_ret, ↓X_opt, ↓X_bind, ↓X_C, ↓X_nil, ↓X_no, ↓X_some, ↓X_yes, ↓X_cons, ↓X_bin, ↓X_un, ↓X_ix, ↓X_B, ↓X_BF, ↓X_binF, ↓X_tup, ↓X_lst, ↓X_lstF, ↓X_bOf, ↓X_and, ↓X_or, ↓X_not, ↓BoK_b, ↓X_eAnd, ↓X_eOr, ↓X_eNot, ↓X_eIf, ↓X_sl, ↓X_fz, ↓X_chain, ↓X_call, ↓X_meth, ↓X_rng1, ↓X_rng2, ↓X_rng3, ↓X_iA, ↓X_lr1, ↓X_lr2, ↓X_kget, ↓X_make, ↓X_get2, ↓X_get1, ↓X_eDic, ↓LsK_l, ↓X_idx, ↓X_VO, ↓X_BO, ↓X_BFO, ↓X_binO, ↓X_ixO, ↓MuK_own, ↓OwK_own, ↓X_mut, ↓Y_nx, ↓Y_pass, ↓Y_brk, ↓Y_cnt, ↓Y_retN, ↓Y_seq, ↓Y_asg, ↓Y_set, ↓Y_own, ↓Y_dat, ↓Y_dic, ↓Y_ret, ↓Y_expr, ↓Y_if, ↓Y_par, ↓Y_par3, ↓AuK_dat, ↓Y_aug, ↓Y_for, ↓Y_while, ↓Y_setIx, slotAt_eq, slotO_own, slotO_dic, g_N, g_two, g_three, g_T, g_L, g_nil, g_cons, Option.bind_some, Option.map_some, List.getElem?_cons_zero, List.getElem?_cons_succ, List.set_cons_zero, List.set_cons_succ, ↓X_W, ↓DrK_d, ↓WkK_d, ↓RwK_ok, ↓X_fzM, ↓X_prn, ↓X_prc, ↓X_disp, ↓X_vD, ↓X_vO, ↓X_vM, ↓Y_parK, asB_b, asI_i, eqD_ii, neD_ii, ltD_ii, leD_ii, gtD_ii, geD_ii, addD_ii, subD_ii, lenD_l, lenD_t, List.length_map, List.length_range, ↓lt_l0, ↓lt_ls, ↓le_l0, ↓le_ls, ↓ln_p, ↓eq_l0, ↓eq_ls, ↓sm_l, if_true, if_false, isi_int_i, isi_bool_i, Bool.not_false]
    cases h : decide (lo ≤ i) <;> simp only [↓Ep_K, ↓Wp_K, ↓IteK_t, ↓IteK_f, ↓OpK_some, ↓AndK_t, ↓RsK_ok, ↓nxtK_nx, ↓nxtK_rt, ↓nxtK_bk, ↓nxtK_ct, ↓nxtK_ex, ↓VK_dat, ↓VK_own, ↓VK_dic, ↓X_V, ↓X_ret, ↓X_opt, ↓X_bind, ↓X_C, ↓X_nil, ↓X_no, ↓X_some, ↓X_yes, ↓X_cons, ↓X_bin, ↓X_un, ↓X_ix, ↓X_B, ↓X_BF, ↓X_binF, ↓X_tup, ↓X_lst, ↓X_lstF, ↓X_bOf, ↓X_and, ↓X_or, ↓X_not, ↓BoK_b, ↓X_eAnd, ↓X_eOr, ↓X_eNot, ↓X_eIf, ↓X_sl, ↓X_fz, ↓X_chain, ↓X_call, ↓X_meth, ↓X_rng1, ↓X_rng2, ↓X_rng3, ↓X_iA, ↓X_lr1, ↓X_lr2, ↓X_kget, ↓X_make, ↓X_get2, ↓X_get1, ↓X_eDic, ↓LsK_l, ↓X_idx, ↓X_VO, ↓X_BO, ↓X_BFO, ↓X_binO, ↓X_ixO, ↓MuK_own, ↓OwK_own, ↓X_mut, ↓Y_nx, ↓Y_pass, ↓Y_brk, ↓Y_cnt, ↓Y_retN, ↓Y_seq, ↓Y_asg, ↓Y_set, ↓Y_own, ↓Y_dat, ↓Y_dic, ↓Y_ret, ↓Y_expr, ↓Y_if, ↓Y_par, ↓Y_par3, ↓AuK_dat, ↓Y_aug, ↓Y_for, ↓Y_while, ↓Y_setIx, slotAt_eq, slotO_own, slotO_dic, g_N, g_two, g_three, g_T, g_L, g_nil, g_cons, Option.bind_some, Option.map_some, List.getElem?_cons_zero, List.getElem?_cons_succ, List.set_cons_zero, List.set_cons_succ, ↓X_W, ↓DrK_d, ↓WkK_d, ↓RwK_ok, ↓X_fzM, ↓X_prn, ↓X_prc, ↓X_disp, ↓X_vD, ↓X_vO, ↓X_vM, ↓Y_parK, asB_b, asI_i, eqD_ii, neD_ii, ltD_ii, leD_ii, gtD_ii, geD_ii, addD_ii, subD_ii, lenD_l, lenD_t, List.length_map, List.length_range, ↓lt_l0, ↓lt_ls, ↓le_l0, ↓le_ls, ↓ln_p, ↓eq_l0, ↓eq_ls, ↓sm_l, if_true, if_false, wholeB, h, Bool.false_and, Bool.true_and]
  | dict => cases hd
  | bool => simp only [↓Ep_K, ↓Wp_K, ↓IteK_t, ↓IteK_f, ↓OpK_some, ↓AndK_t, ↓RsK_ok, ↓nxtK_nx, ↓nxtK_rt, ↓nxtK_bk, ↓nxtK_ct, ↓nxtK_ex, ↓VK_dat, ↓VK_own, ↓VK_dic, ↓X_V, ↓X_ret, ↓X_opt, ↓X_bind, ↓X_C, ↓X_nil, ↓X_no, ↓X_some, ↓X_yes, ↓X_cons, ↓X_bin, ↓X_un, ↓X_ix, ↓X_B, ↓X_BF, ↓X_binF, ↓X_tup, ↓X_lst, ↓X_lstF, ↓X_bOf, ↓X_and, ↓X_or, ↓X_not, ↓BoK_b, ↓X_eAnd, ↓X_eOr, ↓X_eNot, ↓X_eIf, ↓X_sl, ↓X_fz, ↓X_chain, ↓X_call, ↓X_meth, ↓X_rng1, ↓X_rng2, ↓X_rng3, ↓X_iA, ↓X_lr1, ↓X_lr2, ↓X_kget, ↓X_make, ↓X_get2, ↓X_get1, ↓X_eDic, ↓LsK_l, ↓X_idx, ↓X_VO, ↓X_BO, ↓X_BFO, ↓X_binO, ↓X_ixO, ↓MuK_own, ↓OwK_own, ↓X_mut, ↓Y_nx, ↓Y_pass, ↓Y_brk, ↓Y_cnt, ↓Y_retN, ↓Y_seq, ↓Y_asg, ↓Y_set, ↓Y_own, ↓Y_dat, ↓Y_dic, ↓Y_ret, ↓Y_expr, ↓Y_if, ↓Y_par, ↓Y_par3, ↓AuK_dat, ↓Y_aug, ↓Y_for, ↓Y_while, ↓Y_setIx, slotAt_eq, slotO_own, slotO_dic, g_N, g_two, g_three, g_T, g_L, g_nil, g_cons, Option.bind_some, Option.map_some, List.getElem?_cons_zero, List.getElem?_cons_succ, List.set_cons_zero, List.set_cons_succ, ↓X_W, ↓DrK_d, ↓WkK_d, ↓RwK_ok, ↓X_fzM, ↓X_prn, ↓X_prc, ↓X_disp, ↓X_vD, ↓X_vO, ↓X_vM, ↓Y_parK, asB_b, asI_i, eqD_ii, neD_ii, ltD_ii, leD_ii, gtD_ii, geD_ii, addD_ii, subD_ii, lenD_l, lenD_t, List.length_map, List.length_range, ↓lt_l0, ↓lt_ls, ↓le_l0, ↓le_ls, ↓ln_p, ↓eq_l0, ↓eq_ls, ↓sm_l, if_true, if_false, isi_int_b, isi_bool_b, Bool.not_true, wholeB]
  | none => simp only [↓Ep_K, ↓Wp_K, ↓IteK_t, ↓IteK_f, ↓OpK_some, ↓AndK_t, ↓RsK_ok, ↓nxtK_nx, ↓nxtK_rt, ↓nxtK_bk, ↓nxtK_ct, ↓nxtK_ex, ↓VK_dat, ↓VK_own, ↓VK_dic, ↓X_V, ↓X_ret, ↓X_opt, ↓X_bind, ↓X_C, ↓X_nil, ↓X_no, ↓X_some, ↓X_yes, ↓X_cons, ↓X_bin, ↓X_un, ↓X_ix, ↓X_B, ↓X_BF, ↓X_binF, ↓X_tup, ↓X_lst, ↓X_lstF, ↓X_bOf, ↓X_and, ↓X_or, ↓X_not, ↓BoK_b, ↓X_eAnd, ↓X_eOr, ↓X_eNot, ↓X_eIf, ↓X_sl, ↓X_fz, ↓X_chain, ↓X_call, ↓X_meth, ↓X_rng1, ↓X_rng2, ↓X_rng3, ↓X_iA, ↓X_lr1, ↓X_lr2, ↓X_kget, ↓X_make, ↓X_get2, ↓X_get1, ↓X_eDic, ↓LsK_l, ↓X_idx, ↓X_VO, ↓X_BO, ↓X_BFO, ↓X_binO, ↓X_ixO, ↓MuK_own, ↓OwK_own, ↓X_mut, ↓Y_nx, ↓Y_pass, ↓Y_brk, ↓Y_cnt, ↓Y_retN, ↓Y_seq, ↓Y_asg, ↓Y_set, ↓Y_own, ↓Y_dat, ↓Y_dic, ↓Y_ret, ↓Y_expr, ↓Y_if, ↓Y_par, ↓Y_par3, ↓AuK_dat, ↓Y_aug, ↓Y_for, ↓Y_while, ↓Y_setIx, slotAt_eq, slotO_own, slotO_dic, g_N, g_two, g_three, g_T, g_L, g_nil, g_cons, Option.bind_some, Option.map_some, List.getElem?_cons_zero, List.getElem?_cons_succ, List.set_cons_zero, List.set_cons_succ, ↓X_W, ↓DrK_d, ↓WkK_d, ↓RwK_ok, ↓X_fzM, ↓X_prn, ↓X_prc, ↓X_disp, ↓X_vD, ↓X_vO, ↓X_vM, ↓Y_parK, asB_b, asI_i, eqD_ii, neD_ii, ltD_ii, leD_ii, gtD_ii, geD_ii, addD_ii, subD_ii, lenD_l, lenD_t, List.length_map, List.length_range, ↓lt_l0, ↓lt_ls, ↓le_l0, ↓le_ls, ↓ln_p, ↓eq_l0, ↓eq_ls, ↓sm_l, if_true, if_false, isi_int_n, wholeB]
  | str => simp only [↓Ep_K, ↓Wp_K, ↓IteK_t, ↓IteK_f, ↓OpK_some, ↓AndK_t, ↓RsK_ok, ↓nxtK_nx, ↓nxtK_rt, ↓nxtK_bk, ↓nxtK_ct, ↓nxtK_ex, ↓VK_dat, ↓VK_own, ↓VK_dic, ↓X_V, ↓X_ret, ↓X_opt, ↓X_bind, ↓X_C, ↓X_nil, ↓X_no, ↓X_some, ↓X_yes, ↓X_cons, ↓X_bin, ↓X_un, ↓X_ix, ↓X_B, ↓X_BF, ↓X_binF, ↓X_tup, ↓X_lst, ↓X_lstF, ↓X_bOf, ↓X_and, ↓X_or, ↓X_not, ↓BoK_b, ↓X_eAnd, ↓X_eOr, ↓X_eNot, ↓X_eIf, ↓X_sl, ↓X_fz, ↓X_chain, ↓X_call, ↓X_meth, ↓X_rng1, ↓X_rng2, ↓X_rng3, ↓X_iA, ↓X_lr1, ↓X_lr2, ↓X_kget, ↓X_make, ↓X_get2, ↓X_get1, ↓X_eDic, ↓LsK_l, ↓X_idx, ↓X_VO, ↓X_BO, ↓X_BFO, ↓X_binO, ↓X_ixO, ↓MuK_own, ↓OwK_own, ↓X_mut, ↓Y_nx, ↓Y_pass, ↓Y_brk, ↓Y_cnt, ↓Y_retN, ↓Y_seq, ↓Y_asg, ↓Y_set, ↓Y_own, ↓Y_dat, ↓Y_dic, ↓Y_ret, ↓Y_expr, ↓Y_if, ↓Y_par, ↓Y_par3, ↓AuK_dat, ↓Y_aug, ↓Y_for, ↓Y_while, ↓Y_setIx, slotAt_eq, slotO_own, slotO_dic, g_N, g_two, g_three, g_T, g_L, g_nil, g_cons, Option.bind_some, Option.map_some, List.getElem?_cons_zero, List.getElem?_cons_succ, List.set_cons_zero, List.set_cons_succ, ↓X_W, ↓DrK_d, ↓WkK_d, ↓RwK_ok, ↓X_fzM, ↓X_prn, ↓X_prc, ↓X_disp, ↓X_vD, ↓X_vO, ↓X_vM, ↓Y_parK, asB_b, asI_i, eqD_ii, neD_ii, ltD_ii, leD_ii, gtD_ii, geD_ii, addD_ii, subD_ii, lenD_l, lenD_t, List.length_map, List.length_range, ↓lt_l0, ↓lt_ls, ↓le_l0, ↓le_ls, ↓ln_p, ↓eq_l0, ↓eq_ls, ↓sm_l, if_true, if_false, isi_int_s, wholeB]
  | list => simp only [↓Ep_K, ↓Wp_K, ↓IteK_t, ↓IteK_f, ↓OpK_some, ↓AndK_t, ↓RsK_ok, ↓nxtK_nx, ↓nxtK_rt, ↓nxtK_bk, ↓nxtK_ct, ↓nxtK_ex, ↓VK_dat, ↓VK_own, ↓VK_dic, ↓X_V, ↓X_ret, ↓X_opt, ↓X_bind, ↓X_C, ↓X_nil, ↓X_no, ↓X_some, ↓X_yes, ↓X_cons, ↓X_bin, ↓X_un, ↓X_ix, ↓X_B, ↓X_BF, ↓X_binF, ↓X_tup, ↓X_lst, ↓X_lstF, ↓X_bOf, ↓X_and, ↓X_or, ↓X_not, ↓BoK_b, ↓X_eAnd, ↓X_eOr, ↓X_eNot, ↓X_eIf, ↓X_sl, ↓X_fz, ↓X_chain, ↓X_call, ↓X_meth, ↓X_rng1, ↓X_rng2, ↓X_rng3, ↓X_iA, ↓X_lr1, ↓X_lr2, ↓X_kget, ↓X_make, ↓X_get2, ↓X_get1, ↓X_eDic, ↓LsK_l, ↓X_idx, ↓X_VO, ↓X_BO, ↓X_BFO, ↓X_binO, ↓X_ixO, ↓MuK_own, ↓OwK_own, ↓X_mut, ↓Y_nx, ↓Y_pass, ↓Y_brk, ↓Y_cnt, ↓Y_retN, ↓Y_seq, ↓Y_asg, ↓Y_set, ↓Y_own, ↓Y_dat, ↓Y_dic, ↓Y_ret, ↓Y_expr, ↓Y_if, ↓Y_par, ↓Y_par3, ↓AuK_dat, ↓Y_aug, ↓Y_for, ↓Y_while, ↓Y_setIx, slotAt_eq, slotO_own, slotO_dic, g_N, g_two, g_three, g_T, g_L, g_nil, g_cons, Option.bind_some, Option.map_some, List.getElem?_cons_zero, List.getElem?_cons_succ, List.set_cons_zero, List.set_cons_succ, ↓X_W, ↓DrK_d, ↓WkK_d, ↓RwK_ok, ↓X_fzM, ↓X_prn, ↓X_prc, ↓X_disp, ↓X_vD, ↓X_vO, ↓X_vM, ↓Y_parK, asB_b, asI_i, eqD_ii, neD_ii, ltD_ii, leD_ii, gtD_ii, geD_ii, addD_ii, subD_ii, lenD_l, lenD_t, List.length_map, List.length_range, ↓lt_l0, ↓lt_ls, ↓le_l0, ↓le_ls, ↓ln_p, ↓eq_l0, ↓eq_ls, ↓sm_l, if_true, if_false, isi_int_l, wholeB]
  | tuple => simp only [↓Ep_K, ↓Wp_K, ↓IteK_t, ↓IteK_f, ↓OpK_some, ↓AndK_t, ↓RsK_ok, ↓nxtK_nx, ↓nxtK_rt, ↓nxtK_bk, ↓nxtK_ct, ↓nxtK_ex, ↓VK_dat, ↓VK_own, ↓VK_dic, ↓X_V, ↓X_ret, ↓X_opt, ↓X_bind, ↓X_C, ↓X_nil, ↓X_no, ↓X_some, ↓X_yes, ↓X_cons, ↓X_bin, ↓X_un, ↓X_ix, ↓X_B, ↓X_BF, ↓X_binF, ↓X_tup, ↓X_lst, ↓X_lstF, ↓X_bOf, ↓X_and, ↓X_or, ↓X_not, ↓BoK_b, ↓X_eAnd, ↓X_eOr, ↓X_eNot, ↓X_eIf, ↓X_sl, ↓X_fz, ↓X_chain, ↓X_call, ↓X_meth, ↓X_rng1, ↓X_rng2, ↓X_rng3, ↓X_iA, ↓X_lr1, ↓X_lr2, ↓X_kget, ↓X_make, ↓X_get2, ↓X_get1, ↓X_eDic, ↓LsK_l, ↓X_idx, ↓X_VO, ↓X_BO, ↓X_BFO, ↓X_binO, ↓X_ixO, ↓MuK_own, ↓OwK_own, ↓X_mut, ↓Y_nx, ↓Y_pass, ↓Y_brk, ↓Y_cnt, ↓Y_retN, ↓Y_seq, ↓Y_asg, ↓Y_set, ↓Y_own, ↓Y_dat, ↓Y_dic, ↓Y_ret, ↓Y_expr, ↓Y_if, ↓Y_par, ↓Y_par3, ↓AuK_dat, ↓Y_aug, ↓Y_for, ↓Y_while, ↓Y_setIx, slotAt_eq, slotO_own, slotO_dic, g_N, g_two, g_three, g_T, g_L, g_nil, g_cons, Option.bind_some, Option.map_some, List.getElem?_cons_zero, List.getElem?_cons_succ, List.set_cons_zero, List.set_cons_succ, ↓X_W, ↓DrK_d, ↓WkK_d, ↓RwK_ok, ↓X_fzM, ↓X_prn, ↓X_prc, ↓X_disp, ↓X_vD, ↓X_vO, ↓X_vM, ↓Y_parK, asB_b, asI_i, eqD_ii, neD_ii, ltD_ii, leD_ii, gtD_ii, geD_ii, addD_ii, subD_ii, lenD_l, lenD_t, List.length_map, List.length_range, ↓lt_l0, ↓lt_ls, ↓le_l0, ↓le_ls, ↓ln_p, ↓eq_l0, ↓eq_ls, ↓sm_l, if_true, if_false, isi_int_t, wholeB]
def wordB (n l : Nat) : D → Bool
  | .tuple ds => decide (ds.length = l) && ds.all (wholeB 0 ((n : Int) - 1))
  | _ => false
theorem is_word_eq {d : D} {n l : Nat} (hd : notDict d = true) (hs : ∀ ds, d = .tuple ds → ds.length ≤ 1000000 ∧ ∀ x ∈ ds, notDict x = true) : f_is_word [d, .int n, .int l] = .ok (.bool (wordB n l d)) := by
  refine RsK.eq (R_run2 ?_)
  show Wp b_is_word [.dat d, .dat (.int n), .dat (.int l), .un] _
  unfold b_is_word
  cases d with
  | tuple ds =>
    obtain ⟨h1, h2⟩ := hs ds rfl
    simp only [↓Ep_K, ↓Wp_K, ↓IteK_t, ↓IteK_f, ↓OpK_some, ↓AndK_t, ↓RsK_ok, ↓nxtK_nx, ↓nxtK_rt, ↓nxtK_bk, ↓nxtK_ct, ↓nxtK_ex, ↓VK_dat, ↓VK_own, ↓VK_dic, ↓X_V, ↓X_ret, ↓X_opt, ↓X_bind, ↓X_C, ↓X_nil, ↓X_no, ↓X_some, ↓X_yes, ↓X_cons, ↓X_bin, ↓X_un, ↓X_ix, ↓X_B, ↓X_BF, ↓X_binF, ↓X_tup, ↓X_lst, ↓X_lstF, ↓X_bOf, ↓X_and, ↓X_or, ↓X_not, ↓BoK_b, ↓X_eAnd, ↓X_eOr, ↓X_eNot, ↓X_eIf, ↓X_sl, ↓X_fz, ↓X_chain, ↓X_call, ↓X_meth, ↓X_rng1, ↓X_rng2, ↓X_rng3, ↓X_iA, ↓X_lr1, ↓X_lr2, ↓X_kget, ↓X_make, ↓X_get2, ↓X_get1, ↓X_eDic, ↓LsK_l, ↓X_idx, ↓X_VO, ↓X_BO, ↓X_BFO, ↓X_binO, ↓X_ixO, ↓MuK_own, ↓OwK_own, ↓X_mut, ↓Y_nx, ↓Y_pass, ↓Y_brk, ↓Y_cnt, ↓Y_retN, ↓Y_seq, ↓Y_asg, ↓Y_set, ↓Y_own, ↓Y_dat, ↓Y_dic, ↓Y_ret, ↓Y_expr, ↓Y_if, ↓Y_par, ↓Y_par3, ↓AuK_dat, ↓Y_aug, ↓Y_for, ↓Y_while, ↓Y_setIx, slotAt_eq, slotO_own, slotO_dic, g_N, g_two, g_three, g_T, g_L, g_nil, g_cons, Option.bind_some, Option.map_some, List.getElem?_cons_zero, List.getElem?_cons_succ, List.set_cons_zero, List.set_cons_succ, ↓X_W, ↓DrK_d, ↓WkK_d, ↓RwK_ok, ↓X_fzM, ↓X_prn, ↓X_prc, ↓X_disp, ↓X_vD, ↓X_vO, ↓X_vM, ↓Y_parK, asB_b, asI_i, eqD_ii, neD_ii, ltD_ii, leD_ii, gtD_ii, geD_ii, addD_ii, subD_ii, lenD_l, lenD_t, List.length_map, List.length_range, ↓lt_l0, ↓lt_ls, ↓le_l0, ↓le_ls, ↓ln_p, ↓eq_l0, ↓eq_ls, ↓sm_l, if_true, if_false, isi_tup_t, Bool.not_true]
    by_cases hl : ds.length = l
    · have e1 : decide ((ds.length : Int) = l) = true := by simp; omega
      simp only [↓Ep_K, ↓Wp_K, ↓IteK_t, ↓IteK_f, ↓OpK_some, ↓AndK_t, ↓RsK_ok, ↓nxtK_nx, ↓nxtK_rt, ↓nxtK_bk, ↓nxtK_ct, ↓nxtK_ex, ↓VK_dat, ↓VK_own, ↓VK_dic, ↓X_V, ↓X_ret, ↓X_opt, ↓X_bind, ↓X_C, ↓X_nil, ↓X_no, ↓X_some, ↓X_yes, ↓X_cons, ↓X_bin, ↓X_un, ↓X_ix, ↓X_B, ↓X_BF, ↓X_binF, ↓X_tup, ↓X_lst, ↓X_lstF, ↓X_bOf, ↓X_and, ↓X_or, ↓X_not, ↓BoK_b, ↓X_eAnd, ↓X_eOr, ↓X_eNot, ↓X_eIf, ↓X_sl, ↓X_fz, ↓X_chain, ↓X_call, ↓X_meth, ↓X_rng1, ↓X_rng2, ↓X_rng3, ↓X_iA, ↓X_lr1, ↓X_lr2, ↓X_kget, ↓X_make, ↓X_get2, ↓X_get1, ↓X_eDic, ↓LsK_l, ↓X_idx, ↓X_VO, ↓X_BO, ↓X_BFO, ↓X_binO, ↓X_ixO, ↓MuK_own, ↓OwK_own, ↓X_mut, ↓Y_nx, ↓Y_pass, ↓Y_brk, ↓Y_cnt, ↓Y_retN, ↓Y_seq, ↓Y_asg, ↓Y_set, ↓Y_own, ↓Y_dat, ↓Y_dic, ↓Y_ret, ↓Y_expr, ↓Y_if, ↓Y_par, ↓Y_par3, ↓AuK_dat, ↓Y_aug, ↓Y_for, ↓Y_while, ↓Y_setIx, slotAt_eq, slotO_own, slotO_dic, g_N, g_two, g_three, g_T, g_L, g_nil, g_cons, Option.bind_some, Option.map_some, List.getElem?_cons_zero, List.getElem?_cons_succ, List.set_cons_zero, List.set_cons_succ, ↓X_W, ↓DrK_d, ↓WkK_d, ↓RwK_ok, ↓X_fzM, ↓X_prn, ↓X_prc, ↓X_disp, ↓X_vD, ↓X_vO, ↓X_vM, ↓Y_parK, asB_b, asI_i, eqD_ii, neD_ii, ltD_ii, leD_ii, gtD_ii, geD_ii, addD_ii, subD_ii, lenD_l, lenD_t, List.length_map, List.length_range, ↓lt_l0, ↓lt_ls, ↓le_l0, ↓le_ls, ↓ln_p, ↓eq_l0, ↓eq_ls, ↓sm_l, if_true, if_false, e1, Bool.not_true, walk_t]
      refine E_mapG (fun d : D => d) ds (fun d => .bool (wholeB 0 ((n : Int) - 1) d)) ?_ (by simp) rfl h1 (fun x hx => ?_) ?_
      · simp only [↓Ep_K, ↓Wp_K, ↓IteK_t, ↓IteK_f, ↓OpK_some, ↓AndK_t, ↓RsK_ok, ↓nxtK_nx, ↓nxtK_rt, ↓nxtK_bk, ↓nxtK_ct, ↓nxtK_ex, ↓VK_dat, ↓VK_own, ↓VK_dic, ↓X_V, ↓X_ret, ↓X_opt, ↓X_bind, ↓X_C, ↓X_nil, ↓X_no, ↓X_some, ↓X_yes, ↓X_cons, ↓X_bin, ↓X_un, ↓X_ix, ↓X_B, ↓X_BF, ↓X_binF, ↓X_tup, ↓X_lst, ↓X_lstF, ↓X_bOf, ↓X_and, ↓X_or, ↓X_not, ↓BoK_b, ↓X_eAnd, ↓X_eOr, ↓X_eNot, ↓X_eIf, ↓X_sl, ↓X_fz, ↓X_chain, ↓X_call, ↓X_meth, ↓X_rng1, ↓X_rng2, ↓X_rng3, ↓X_iA, ↓X_lr1, ↓X_lr2, ↓X_kget, ↓X_make, ↓X_get2, ↓X_get1, ↓X_eDic, ↓LsK_l, ↓X_idx, ↓X_VO, ↓X_BO, ↓X_BFO, ↓X_binO, ↓X_ixO, ↓MuK_own, ↓OwK_own, ↓X_mut, ↓Y_nx, ↓Y_pass, ↓Y_brk, ↓Y_cnt, ↓Y_retN, ↓Y_seq, ↓Y_asg, ↓Y_set, ↓Y_own, ↓Y_dat, ↓Y_dic, ↓Y_ret, ↓Y_expr, ↓Y_if, ↓Y_par, ↓Y_par3, ↓AuK_dat, ↓Y_aug, ↓Y_for, ↓Y_while, ↓Y_setIx, slotAt_eq, slotO_own, slotO_dic, g_N, g_two, g_three, g_T, g_L, g_nil, g_cons, Option.bind_some, Option.map_some, List.getElem?_cons_zero, List.getElem?_cons_succ, List.set_cons_zero, List.set_cons_succ, ↓X_W, ↓DrK_d, ↓WkK_d, ↓RwK_ok, ↓X_fzM, ↓X_prn, ↓X_prc, ↓X_disp, ↓X_vD, ↓X_vO, ↓X_vM, ↓Y_parK, asB_b, asI_i, eqD_ii, neD_ii, ltD_ii, leD_ii, gtD_ii, geD_ii, addD_ii, subD_ii, lenD_l, lenD_t, List.length_map, List.length_range, ↓lt_l0, ↓lt_ls, ↓le_l0, ↓le_ls, ↓ln_p, ↓eq_l0, ↓eq_ls, ↓sm_l, if_true, if_false, walk_t, List.map_id', and_self]
      · simp only [↓Ep_K, ↓Wp_K, ↓IteK_t, ↓IteK_f, ↓OpK_some, ↓AndK_t, ↓RsK_ok, ↓nxtK_nx, ↓nxtK_rt, ↓nxtK_bk, ↓nxtK_ct, ↓nxtK_ex, ↓VK_dat, ↓VK_own, ↓VK_dic, ↓X_V, ↓X_ret, ↓X_opt, ↓X_bind, ↓X_C, ↓X_nil, ↓X_no, ↓X_some, ↓X_yes, ↓X_cons, ↓X_bin, ↓X_un, ↓X_ix, ↓X_B, ↓X_BF, ↓X_binF, ↓X_tup, ↓X_lst, ↓X_lstF, ↓X_bOf, ↓X_and, ↓X_or, ↓X_not, ↓BoK_b, ↓X_eAnd, ↓X_eOr, ↓X_eNot, ↓X_eIf, ↓X_sl, ↓X_fz, ↓X_chain, ↓X_call, ↓X_meth, ↓X_rng1, ↓X_rng2, ↓X_rng3, ↓X_iA, ↓X_lr1, ↓X_lr2, ↓X_kget, ↓X_make, ↓X_get2, ↓X_get1, ↓X_eDic, ↓LsK_l, ↓X_idx, ↓X_VO, ↓X_BO, ↓X_BFO, ↓X_binO, ↓X_ixO, ↓MuK_own, ↓OwK_own, ↓X_mut, ↓Y_nx, ↓Y_pass, ↓Y_brk, ↓Y_cnt, ↓Y_retN, ↓Y_seq, ↓Y_asg, ↓Y_set, ↓Y_own, ↓Y_dat, ↓Y_dic, ↓Y_ret, ↓Y_expr, ↓Y_if, ↓Y_par, ↓Y_par3, ↓AuK_dat, ↓Y_aug, ↓Y_for, ↓Y_while, ↓Y_setIx, slotAt_eq, slotO_own, slotO_dic, g_N, g_two, g_three, g_T, g_L, g_nil, g_cons, Option.bind_some, Option.map_some, List.getElem?_cons_zero, List.getElem?_cons_succ, List.set_cons_zero, List.set_cons_succ, ↓X_W, ↓DrK_d, ↓WkK_d, ↓RwK_ok, ↓X_fzM, ↓X_prn, ↓X_prc, ↓X_disp, ↓X_vD, ↓X_vO, ↓X_vM, ↓Y_parK, asB_b, asI_i, eqD_ii, neD_ii, ltD_ii, leD_ii, gtD_ii, geD_ii, addD_ii, subD_ii, lenD_l, lenD_t, List.length_map, List.length_range, ↓lt_l0, ↓lt_ls, ↓le_l0, ↓le_ls, ↓ln_p, ↓eq_l0, ↓eq_ls, ↓sm_l, if_true, if_false, is_whole_eq (h2 x hx), and_self]
      · simp only [↓Ep_K, ↓Wp_K, ↓IteK_t, ↓IteK_f, ↓OpK_some, ↓AndK_t, ↓RsK_ok, ↓nxtK_nx, ↓nxtK_rt, ↓nxtK_bk, ↓nxtK_ct, ↓nxtK_ex, ↓VK_dat, ↓VK_own, ↓VK_dic, ↓X_V, ↓X_ret, ↓X_opt, ↓X_bind, ↓X_C, ↓X_nil, ↓X_no, ↓X_some, ↓X_yes, ↓X_cons, ↓X_bin, ↓X_un, ↓X_ix, ↓X_B, ↓X_BF, ↓X_binF, ↓X_tup, ↓X_lst, ↓X_lstF, ↓X_bOf, ↓X_and, ↓X_or, ↓X_not, ↓BoK_b, ↓X_eAnd, ↓X_eOr, ↓X_eNot, ↓X_eIf, ↓X_sl, ↓X_fz, ↓X_chain, ↓X_call, ↓X_meth, ↓X_rng1, ↓X_rng2, ↓X_rng3, ↓X_iA, ↓X_lr1, ↓X_lr2, ↓X_kget, ↓X_make, ↓X_get2, ↓X_get1, ↓X_eDic, ↓LsK_l, ↓X_idx, ↓X_VO, ↓X_BO, ↓X_BFO, ↓X_binO, ↓X_ixO, ↓MuK_own, ↓OwK_own, ↓X_mut, ↓Y_nx, ↓Y_pass, ↓Y_brk, ↓Y_cnt, ↓Y_retN, ↓Y_seq, ↓Y_asg, ↓Y_set, ↓Y_own, ↓Y_dat, ↓Y_dic, ↓Y_ret, ↓Y_expr, ↓Y_if, ↓Y_par, ↓Y_par3, ↓AuK_dat, ↓Y_aug, ↓Y_for, ↓Y_while, ↓Y_setIx, slotAt_eq, slotO_own, slotO_dic, g_N, g_two, g_three, g_T, g_L, g_nil, g_cons, Option.bind_some, Option.map_some, List.getElem?_cons_zero, List.getElem?_cons_succ, List.set_cons_zero, List.set_cons_succ, ↓X_W, ↓DrK_d, ↓WkK_d, ↓RwK_ok, ↓X_fzM, ↓X_prn, ↓X_prc, ↓X_disp, ↓X_vD, ↓X_vO, ↓X_vM, ↓Y_parK, asB_b, asI_i, eqD_ii, neD_ii, ltD_ii, leD_ii, gtD_ii, geD_ii, addD_ii, subD_ii, lenD_l, lenD_t, List.length_map, List.length_range, ↓lt_l0, ↓lt_ls, ↓le_l0, ↓le_ls, ↓ln_p, ↓eq_l0, ↓eq_ls, ↓sm_l, if_true, if_false, allD_map, wordB, hl, decide_true, Bool.true_and]
    · have e1 : decide ((ds.length : Int) = l) = false := by simp; omega
      simp only [↓Ep_K, ↓Wp_K, ↓IteK_t, ↓IteK_f, ↓OpK_some, ↓AndK_t, ↓RsK_ok, ↓nxtK_nx, ↓nxtK_rt, ↓nxtK_bk, ↓nxtK_ct, ↓nxtK_ex, ↓VK_dat, ↓VK_own, ↓VK_dic, ↓X_V, ↓X_ret, ↓X_opt, ↓X_bind, ↓X_C, ↓X_nil, ↓X_no, ↓X_some, ↓X_yes, ↓X_cons, ↓X_bin, ↓X_un, ↓X_ix, ↓X_B, ↓X_BF, ↓X_binF, ↓X_tup, ↓X_lst, ↓X_lstF, ↓X_bOf, ↓X_and, ↓X_or, ↓X_not, ↓BoK_b, ↓X_eAnd, ↓X_eOr, ↓X_eNot, ↓X_eIf, ↓X_sl, ↓X_fz, ↓X_chain, ↓X_call, ↓X_meth, ↓X_rng1, ↓X_rng2, ↓X_rng3, ↓X_iA, ↓X_lr1, ↓X_lr2, ↓X_kget, ↓X_make, ↓X_get2, ↓X_get1, ↓X_eDic, ↓LsK_l, ↓X_idx, ↓X_VO, ↓X_BO, ↓X_BFO, ↓X_binO, ↓X_ixO, ↓MuK_own, ↓OwK_own, ↓X_mut, ↓Y_nx, ↓Y_pass, ↓Y_brk, ↓Y_cnt, ↓Y_retN, ↓Y_seq, ↓Y_asg, ↓Y_set, ↓Y_own, ↓Y_dat, ↓Y_dic, ↓Y_ret, ↓Y_expr, ↓Y_if, ↓Y_par, ↓Y_par3, ↓AuK_dat, ↓Y_aug, ↓Y_for, ↓Y_while, ↓Y_setIx, slotAt_eq, slotO_own, slotO_dic, g_N, g_two, g_three, g_T, g_L, g_nil, g_cons, Option.bind_some, Option.map_some, List.getElem?_cons_zero, List.getElem?_cons_succ, List.set_cons_zero, List.set_cons_succ, ↓X_W, ↓DrK_d, ↓WkK_d, ↓RwK_ok, ↓X_fzM, ↓X_prn, ↓X_prc, ↓X_disp, ↓X_vD, ↓X_vO, ↓X_vM, ↓Y_parK, asB_b, asI_i, eqD_ii, neD_ii, ltD_ii, leD_ii, gtD_ii, geD_ii, addD_ii, subD_ii, lenD_l, lenD_t, List.length_map, List.length_range, ↓lt_l0, ↓lt_ls, ↓le_l0, ↓le_ls, ↓ln_p, ↓eq_l0, ↓eq_ls, ↓sm_l, if_true, if_false, e1, Bool.not_false, wordB, hl, decide_false, Bool.false_and]
  | dict => cases hd
  | bool => simp only [↓Ep_K, ↓Wp_K, ↓IteK_t, ↓IteK_f, ↓OpK_some, ↓AndK_t, ↓RsK_ok, ↓nxtK_nx, ↓nxtK_rt, ↓nxtK_bk, ↓nxtK_ct, ↓nxtK_ex, ↓VK_dat, ↓VK_own, ↓VK_dic, ↓X_V, ↓X_ret, ↓X_opt, ↓X_bind, ↓X_C, ↓X_nil, ↓X_no, ↓X_some, ↓X_yes, ↓X_cons, ↓X_bin, ↓X_un, ↓X_ix, ↓X_B, ↓X_BF, ↓X_binF, ↓X_tup, ↓X_lst, ↓X_lstF, ↓X_bOf, ↓X_and, ↓X_or, ↓X_not, ↓BoK_b, ↓X_eAnd, ↓X_eOr, ↓X_eNot, ↓X_eIf, ↓X_sl, ↓X_fz, ↓X_chain, ↓X_call, ↓X_meth, ↓X_rng1, ↓X_rng2, ↓X_rng3, ↓X_iA, ↓X_lr1, ↓X_lr2, ↓X_kget, ↓X_make, ↓X_get2, ↓X_get1, ↓X_eDic, ↓LsK_l, ↓X_idx, ↓X_VO, ↓X_BO, ↓X_BFO, ↓X_binO, ↓X_ixO, ↓MuK_own, ↓OwK_own, ↓X_mut, ↓Y_nx, ↓Y_pass, ↓Y_brk, ↓Y_cnt, ↓Y_retN, ↓Y_seq, ↓Y_asg, ↓Y_set, ↓Y_own, ↓Y_dat, ↓Y_dic, ↓Y_ret, ↓Y_expr, ↓Y_if, ↓Y_par, ↓Y_par3, ↓AuK_dat, ↓Y_aug, ↓Y_for, ↓Y_while, ↓Y_setIx, slotAt_eq, slotO_own, slotO_dic, g_N, g_two, g_three, g_T, g_L, g_nil, g_cons, Option.bind_some, Option.map_some, List.getElem?_cons_zero, List.getElem?_cons_succ, List.set_cons_zero, List.set_cons_succ, ↓X_W, ↓DrK_d, ↓WkK_d, ↓RwK_ok, ↓X_fzM, ↓X_prn, ↓X_prc, ↓X_disp, ↓X_vD, ↓X_vO, ↓X_vM, ↓Y_parK, asB_b, asI_i, eqD_ii, neD_ii, ltD_ii, leD_ii, gtD_ii, geD_ii, addD_ii, subD_ii, lenD_l, lenD_t, List.length_map, List.length_range, ↓lt_l0, ↓lt_ls, ↓le_l0, ↓le_ls, ↓ln_p, ↓eq_l0, ↓eq_ls, ↓sm_l, if_true, if_false, isi_tup_b, Bool.not_false, wordB]
  | none => simp only [↓Ep_K, ↓Wp_K, ↓IteK_t, ↓IteK_f, ↓OpK_some, ↓AndK_t, ↓RsK_ok, ↓nxtK_nx, ↓nxtK_rt, ↓nxtK_bk, ↓nxtK_ct, ↓nxtK_ex, ↓VK_dat, ↓VK_own, ↓VK_dic, ↓X_V, ↓X_ret, ↓X_opt, ↓X_bind, ↓X_C, ↓X_nil, ↓X_no, ↓X_some, ↓X_yes, ↓X_cons, ↓X_bin, ↓X_un, ↓X_ix, ↓X_B, ↓X_BF, ↓X_binF, ↓X_tup, ↓X_lst, ↓X_lstF, ↓X_bOf, ↓X_and, ↓X_or, ↓X_not, ↓BoK_b, ↓X_eAnd, ↓X_eOr, ↓X_eNot, ↓X_eIf, ↓X_sl, ↓X_fz, ↓X_chain, ↓X_call, ↓X_meth, ↓X_rng1, ↓X_rng2, ↓X_rng3, ↓X_iA, ↓X_lr1, ↓X_lr2, ↓X_kget, ↓X_make, ↓X_get2, ↓X_get1, ↓X_eDic, ↓LsK_l, ↓X_idx, ↓X_VO, ↓X_BO, ↓X_BFO, ↓X_binO, ↓X_ixO, ↓MuK_own, ↓OwK_own, ↓X_mut, ↓Y_nx, ↓Y_pass, ↓Y_brk, ↓Y_cnt, ↓Y_retN, ↓Y_seq, ↓Y_asg, ↓Y_set, ↓Y_own, ↓Y_dat, ↓Y_dic, ↓Y_ret, ↓Y_expr, ↓Y_if, ↓Y_par, ↓Y_par3, ↓AuK_dat, ↓Y_aug, ↓Y_for, ↓Y_while, ↓Y_setIx, slotAt_eq, slotO_own, slotO_dic, g_N, g_two, g_three, g_T, g_L, g_nil, g_cons, Option.bind_some, Option.map_some, List.getElem?_cons_zero, List.getElem?_cons_succ, List.set_cons_zero, List.set_cons_succ, ↓X_W, ↓DrK_d, ↓WkK_d, ↓RwK_ok, ↓X_fzM, ↓X_prn, ↓X_prc, ↓X_disp, ↓X_vD, ↓X_vO, ↓X_vM, ↓Y_parK, asB_b, asI_i, eqD_ii, neD_ii, ltD_ii, leD_ii, gtD_ii, geD_ii, addD_ii, subD_ii, lenD_l, lenD_t, List.length_map, List.length_range, ↓lt_l0, ↓lt_ls, ↓le_l0, ↓le_ls, ↓ln_p, ↓eq_l0, ↓eq_ls, ↓sm_l, if_true, if_false, isi_tup_n, Bool.not_false, wordB]
  | str => simp only [↓Ep_K, ↓Wp_K, ↓IteK_t, ↓IteK_f, ↓OpK_some, ↓AndK_t, ↓RsK_ok, ↓nxtK_nx, ↓nxtK_rt, ↓nxtK_bk, ↓nxtK_ct, ↓nxtK_ex, ↓VK_dat, ↓VK_own, ↓VK_dic, ↓X_V, ↓X_ret, ↓X_opt, ↓X_bind, ↓X_C, ↓X_nil, ↓X_no, ↓X_some, ↓X_yes, ↓X_cons, ↓X_bin, ↓X_un, ↓X_ix, ↓X_B, ↓X_BF, ↓X_binF, ↓X_tup, ↓X_lst, ↓X_lstF, ↓X_bOf, ↓X_and, ↓X_or, ↓X_not, ↓BoK_b, ↓X_eAnd, ↓X_eOr, ↓X_eNot, ↓X_eIf, ↓X_sl, ↓X_fz, ↓X_chain, ↓X_call, ↓X_meth, ↓X_rng1, ↓X_rng2, ↓X_rng3, ↓X_iA, ↓X_lr1, ↓X_lr2, ↓X_kget, ↓X_make, ↓X_get2, ↓X_get1, ↓X_eDic, ↓LsK_l, ↓X_idx, ↓X_VO, ↓X_BO, ↓X_BFO, ↓X_binO, ↓X_ixO, ↓MuK_own, ↓OwK_own, ↓X_mut, ↓Y_nx, ↓Y_pass, ↓Y_brk, ↓Y_cnt, ↓Y_retN, ↓Y_seq, ↓Y_asg, ↓Y_set, ↓Y_own, ↓Y_dat, ↓Y_dic, ↓Y_ret, ↓Y_expr, ↓Y_if, ↓Y_par, ↓Y_par3, ↓AuK_dat, ↓Y_aug, ↓Y_for, ↓Y_while, ↓Y_setIx, slotAt_eq, slotO_own, slotO_dic, g_N, g_two, g_three, g_T, g_L, g_nil, g_cons, Option.bind_some, Option.map_some, List.getElem?_cons_zero, List.getElem?_cons_succ, List.set_cons_zero, List.set_cons_succ, ↓X_W, ↓DrK_d, ↓WkK_d, ↓RwK_ok, ↓X_fzM, ↓X_prn, ↓X_prc, ↓X_disp, ↓X_vD, ↓X_vO, ↓X_vM, ↓Y_parK, asB_b, asI_i, eqD_ii, neD_ii, ltD_ii, leD_ii, gtD_ii, geD_ii, addD_ii, subD_ii, lenD_l, lenD_t, List.length_map, List.length_range, ↓lt_l0, ↓lt_ls, ↓le_l0, ↓le_ls, ↓ln_p, ↓eq_l0, ↓eq_ls, ↓sm_l, if_true, if_false, isi_tup_s, Bool.not_false, wordB]
  | list => simp only [↓Ep_K, ↓Wp_K, ↓IteK_t, ↓IteK_f, ↓OpK_some, ↓AndK_t, ↓RsK_ok, ↓nxtK_nx, ↓nxtK_rt, ↓nxtK_bk, ↓nxtK_ct, ↓nxtK_ex, ↓VK_dat, ↓VK_own, ↓VK_dic, ↓X_V, ↓X_ret, ↓X_opt, ↓X_bind, ↓X_C, ↓X_nil, ↓X_no, ↓X_some, ↓X_yes, ↓X_cons, ↓X_bin, ↓X_un, ↓X_ix, ↓X_B, ↓X_BF, ↓X_binF, ↓X_tup, ↓X_lst, ↓X_lstF, ↓X_bOf, ↓X_and, ↓X_or, ↓X_not, ↓BoK_b, ↓X_eAnd, ↓X_eOr, ↓X_eNot, ↓X_eIf, ↓X_sl, ↓X_fz, ↓X_chain, ↓X_call, ↓X_meth, ↓X_rng1, ↓X_rng2, ↓X_rng3, ↓X_iA, ↓X_lr1, ↓X_lr2, ↓X_kget, ↓X_make, ↓X_get2, ↓X_get1, ↓X_eDic, ↓LsK_l, ↓X_idx, ↓X_VO, ↓X_BO, ↓X_BFO, ↓X_binO, ↓X_ixO, ↓MuK_own, ↓OwK_own, ↓X_mut, ↓Y_nx, ↓Y_pass, ↓Y_brk, ↓Y_cnt, ↓Y_retN, ↓Y_seq, ↓Y_asg, ↓Y_set, ↓Y_own, ↓Y_dat, ↓Y_dic, ↓Y_ret, ↓Y_expr, ↓Y_if, ↓Y_par, ↓Y_par3, ↓AuK_dat, ↓Y_aug, ↓Y_for, ↓Y_while, ↓Y_setIx, slotAt_eq, slotO_own, slotO_dic, g_N, g_two, g_three, g_T, g_L, g_nil, g_cons, Option.bind_some, Option.map_some, List.getElem?_cons_zero, List.getElem?_cons_succ, List.set_cons_zero, List.set_cons_succ, ↓X_W, ↓DrK_d, ↓WkK_d, ↓RwK_ok, ↓X_fzM, ↓X_prn, ↓X_prc, ↓X_disp, ↓X_vD, ↓X_vO, ↓X_vM, ↓Y_parK, asB_b, asI_i, eqD_ii, neD_ii, ltD_ii, leD_ii, gtD_ii, geD_ii, addD_ii, subD_ii, lenD_l, lenD_t, List.length_map, List.length_range, ↓lt_l0, ↓lt_ls, ↓le_l0, ↓le_ls, ↓ln_p, ↓eq_l0, ↓eq_ls, ↓sm_l, if_true, if_false, isi_tup_l, Bool.not_false, wordB]
  | int => simp only [↓Ep_K, ↓Wp_K, ↓IteK_t, ↓IteK_f, ↓OpK_some, ↓AndK_t, ↓RsK_ok, ↓nxtK_nx, ↓nxtK_rt, ↓nxtK_bk, ↓nxtK_ct, ↓nxtK_ex, ↓VK_dat, ↓VK_own, ↓VK_dic, ↓X_V, ↓X_ret, ↓X_opt, ↓X_bind, ↓X_C, ↓X_nil, ↓X_no, ↓X_some, ↓X_yes, ↓X_cons, ↓X_bin, ↓X_un, ↓X_ix, ↓X_B, ↓X_BF, ↓X_binF, ↓X_tup, ↓X_lst, ↓X_lstF, ↓X_bOf, ↓X_and, ↓X_or, ↓X_not, ↓BoK_b, ↓X_eAnd, ↓X_eOr, ↓X_eNot, ↓X_eIf, ↓X_sl, ↓X_fz, ↓X_chain, ↓X_call, ↓X_meth, ↓X_rng1, ↓X_rng2, ↓X_rng3, ↓X_iA, ↓X_lr1, ↓X_lr2, ↓X_kget, ↓X_make, ↓X_get2, ↓X_get1, ↓X_eDic, ↓LsK_l, ↓X_idx, ↓X_VO, ↓X_BO, ↓X_BFO, ↓X_binO, ↓X_ixO, ↓MuK_own, ↓OwK_own, ↓X_mut, ↓Y_nx, ↓Y_pass, ↓Y_brk, ↓Y_cnt, ↓Y_retN, ↓Y_seq, ↓Y_asg, ↓Y_set, ↓Y_own, ↓Y_dat, ↓Y_dic, ↓Y_ret, ↓Y_expr, ↓Y_if, ↓Y_par, ↓Y_par3, ↓AuK_dat, ↓Y_aug, ↓Y_for, ↓Y_while, ↓Y_setIx, slotAt_eq, slotO_own, slotO_dic, g_N, g_two, g_three, g_T, g_L, g_nil, g_cons, Option.bind_some, Option.map_some, List.getElem?_cons_zero, List.getElem?_cons_succ, List.set_cons_zero, List.set_cons_succ, ↓X_W, ↓DrK_d, ↓WkK_d, ↓RwK_ok, ↓X_fzM, ↓X_prn, ↓X_prc, ↓X_disp, ↓X_vD, ↓X_vO, ↓X_vM, ↓Y_parK, asB_b, asI_i, eqD_ii, neD_ii, ltD_ii, leD_ii, gtD_ii, geD_ii, addD_ii, subD_ii, lenD_l, lenD_t, List.length_map, List.length_range, ↓lt_l0, ↓lt_ls, ↓le_l0, ↓le_ls, ↓ln_p, ↓eq_l0, ↓eq_ls, ↓sm_l, if_true, if_false, isi_tup_i, Bool.not_false, wordB]
def sizeB : D → Bool
  | .int i => i_SIZES.any fun z => z == i
  | _ => false
theorem is_size_eq {d : D} (hd : notDict d = true) : f_is_size [d] = .ok (.bool (sizeB d)) := by
  refine RsK.eq (R_run2 ?_)
  show Wp b_is_size [.dat d] _
  unfold b_is_size
  cases d with
  | int i =>
    simp only [↓Ep_K, ↓Wp_K, ↓IteK_t, ↓IteK_f, ↓OpK_some, ↓AndK_t, ↓RsK_ok, ↓nxtK_nx, ↓nxtK_rt, ↓nxtK_bk, ↓nxtK_ct, ↓nxtK_ex, ↓VK_dat, ↓VK_own, ↓VK_dic, ↓X_V, ↓X_ret, ↓X_opt, ↓X_bind, ↓X_C, ↓X_nil, ↓X_no, ↓X_some, ↓X_yes, ↓X_cons, ↓X_bin, ↓X_un, ↓X_ix, ↓X_B, ↓X_BF, ↓X_binF, ↓X_tup, ↓X_lst, ↓X_lstF, ↓X_bOf, ↓X_and, ↓X_or, ↓X_not, ↓BoK_b, ↓X_eAnd, ↓X_eOr, ↓X_eNot, ↓X_eIf, ↓X_sl, ↓X_fz, ↓X_chain, ↓X_call, ↓X_meth, ↓X_rng1, ↓X_rng2, ↓X_rng3, ↓X_iA, ↓X_lr1, ↓X_lr2, ↓X_kget, ↓X_make, ↓X_get2, ↓X_get1, ↓X_eDic, ↓LsK_l, ↓X_idx, ↓X_VO, ↓X_BO, ↓X_BFO, ↓X_binO, ↓X_ixO, ↓MuK_own, ↓OwK_own, ↓X_mut, ↓Y_nx, ↓Y_pass, ↓Y_brk, ↓Y_cnt, ↓Y_retN, ↓Y_seq, ↓Y_asg, ↓Y_set, ↓Y_own, ↓Y_dat, ↓Y_dic, ↓Y_ret, ↓Y_expr, ↓Y_if, ↓Y_par, ↓Y_par3, ↓AuK_dat, ↓Y_aug, ↓Y_for, ↓Y_while, ↓Y_setIx, slotAt_eq, slotO_own, slotO_dic, g_N, g_two, g_three, g_T, g_L, g_nil, g_cons, Option.bind_some, Option.map_some, List.getElem?_cons_zero, List.getElem?_cons_succ, List.set_cons_zero, List.set_cons_succ, ↓X_W, ↓DrK_d, ↓WkK_d, ↓RwK_ok, ↓X_fzM, ↓X_prn, ↓X_prc, ↓X_disp, ↓X_vD, ↓X_vO, ↓X_vM, ↓Y_parK, asB_b, asI_i, eqD_ii, neD_ii, ltD_ii, leD_ii, gtD_ii, geD_ii, addD_ii, subD_ii, lenD_l, lenD_t, List.length_map, List.length_range, ↓lt_l0, ↓lt_ls, ↓le_l0, ↓le_ls, ↓ln_p, ↓eq_l0, ↓eq_ls, ↓sm_l, if_true, if_false, isi_int_i, isi_bool_i, Bool.not_false]
    have e : inD (.int i) (.tuple c_SIZES) = some (.bool (sizeB (.int i))) := by
      have e0 : inD (.int i) (.tuple c_SIZES) = (if inOk c_SIZES (.int i) then some (.bool (c_SIZES.any fun z => PyData.eqv z (.int i))) else none) := rfl
      rw [e0, if_pos (show inOk c_SIZES (.int i) = true from rfl)]
      show some (PyData.bool ((i_SIZES.map PyData.int).any _)) = _
      rw [List.any_map]
      rfl
    simp only [↓Ep_K, ↓Wp_K, ↓IteK_t, ↓IteK_f, ↓OpK_some, ↓AndK_t, ↓RsK_ok, ↓nxtK_nx, ↓nxtK_rt, ↓nxtK_bk, ↓nxtK_ct, ↓nxtK_ex, ↓VK_dat, ↓VK_own, ↓VK_dic, ↓X_V, ↓X_ret, ↓X_opt, ↓X_bind, ↓X_C, ↓X_nil, ↓X_no, ↓X_some, ↓X_yes, ↓X_cons, ↓X_bin, ↓X_un, ↓X_ix, ↓X_B, ↓X_BF, ↓X_binF, ↓X_tup, ↓X_lst, ↓X_lstF, ↓X_bOf, ↓X_and, ↓X_or, ↓X_not, ↓BoK_b, ↓X_eAnd, ↓X_eOr, ↓X_eNot, ↓X_eIf, ↓X_sl, ↓X_fz, ↓X_chain, ↓X_call, ↓X_meth, ↓X_rng1, ↓X_rng2, ↓X_rng3, ↓X_iA, ↓X_lr1, ↓X_lr2, ↓X_kget, ↓X_make, ↓X_get2, ↓X_get1, ↓X_eDic, ↓LsK_l, ↓X_idx, ↓X_VO, ↓X_BO, ↓X_BFO, ↓X_binO, ↓X_ixO, ↓MuK_own, ↓OwK_own, ↓X_mut, ↓Y_nx, ↓Y_pass, ↓Y_brk, ↓Y_cnt, ↓Y_retN, ↓Y_seq, ↓Y_asg, ↓Y_set, ↓Y_own, ↓Y_dat, ↓Y_dic, ↓Y_ret, ↓Y_expr, ↓Y_if, ↓Y_par, ↓Y_par3, ↓AuK_dat, ↓Y_aug, ↓Y_for, ↓Y_while, ↓Y_setIx, slotAt_eq, slotO_own, slotO_dic, g_N, g_two, g_three, g_T, g_L, g_nil, g_cons, Option.bind_some, Option.map_some, List.getElem?_cons_zero, List.getElem?_cons_succ, List.set_cons_zero, List.set_cons_succ, ↓X_W, ↓DrK_d, ↓WkK_d, ↓RwK_ok, ↓X_fzM, ↓X_prn, ↓X_prc, ↓X_disp, ↓X_vD, ↓X_vO, ↓X_vM, ↓Y_parK, asB_b, asI_i, eqD_ii, neD_ii, ltD_ii, leD_ii, gtD_ii, geD_ii, addD_ii, subD_ii, lenD_l, lenD_t, List.length_map, List.length_range, ↓lt_l0, ↓lt_ls, ↓le_l0, ↓le_ls, ↓ln_p, ↓eq_l0, ↓eq_ls, ↓sm_l, if_true, if_false, e]
  | dict => cases hd
  | bool => simp only [↓Ep_K, ↓Wp_K, ↓IteK_t, ↓IteK_f, ↓OpK_some, ↓AndK_t, ↓RsK_ok, ↓nxtK_nx, ↓nxtK_rt, ↓nxtK_bk, ↓nxtK_ct, ↓nxtK_ex, ↓VK_dat, ↓VK_own, ↓VK_dic, ↓X_V, ↓X_ret, ↓X_opt, ↓X_bind, ↓X_C, ↓X_nil, ↓X_no, ↓X_some, ↓X_yes, ↓X_cons, ↓X_bin, ↓X_un, ↓X_ix, ↓X_B, ↓X_BF, ↓X_binF, ↓X_tup, ↓X_lst, ↓X_lstF, ↓X_bOf, ↓X_and, ↓X_or, ↓X_not, ↓BoK_b, ↓X_eAnd, ↓X_eOr, ↓X_eNot, ↓X_eIf, ↓X_sl, ↓X_fz, ↓X_chain, ↓X_call, ↓X_meth, ↓X_rng1, ↓X_rng2, ↓X_rng3, ↓X_iA, ↓X_lr1, ↓X_lr2, ↓X_kget, ↓X_make, ↓X_get2, ↓X_get1, ↓X_eDic, ↓LsK_l, ↓X_idx, ↓X_VO, ↓X_BO, ↓X_BFO, ↓X_binO, ↓X_ixO, ↓MuK_own, ↓OwK_own, ↓X_mut, ↓Y_nx, ↓Y_pass, ↓Y_brk, ↓Y_cnt, ↓Y_retN, ↓Y_seq, ↓Y_asg, ↓Y_set, ↓Y_own, ↓Y_dat, ↓Y_dic, ↓Y_ret, ↓Y_expr, ↓Y_if, ↓Y_par, ↓Y_par3, ↓AuK_dat, ↓Y_aug, ↓Y_for, ↓Y_while, ↓Y_setIx, slotAt_eq, slotO_own, slotO_dic, g_N, g_two, g_three, g_T, g_L, g_nil, g_cons, Option.bind_some, Option.map_some, List.getElem?_cons_zero, List.getElem?_cons_succ, List.set_cons_zero, List.set_cons_succ, ↓X_W, ↓DrK_d, ↓WkK_d, ↓RwK_ok, ↓X_fzM, ↓X_prn, ↓X_prc, ↓X_disp, ↓X_vD, ↓X_vO, ↓X_vM, ↓Y_parK, asB_b, asI_i, eqD_ii, neD_ii, ltD_ii, leD_ii, gtD_ii, geD_ii, addD_ii, subD_ii, lenD_l, lenD_t, List.length_map, List.length_range, ↓lt_l0, ↓lt_ls, ↓le_l0, ↓le_ls, ↓ln_p, ↓eq_l0, ↓eq_ls, ↓sm_l, if_true, if_false, isi_int_b, isi_bool_b, Bool.not_true, sizeB]
  | none => simp only [↓Ep_K, ↓Wp_K, ↓IteK_t, ↓IteK_f, ↓OpK_some, ↓AndK_t, ↓RsK_ok, ↓nxtK_nx, ↓nxtK_rt, ↓nxtK_bk, ↓nxtK_ct, ↓nxtK_ex, ↓VK_dat, ↓VK_own, ↓VK_dic, ↓X_V, ↓X_ret, ↓X_opt, ↓X_bind, ↓X_C, ↓X_nil, ↓X_no, ↓X_some, ↓X_yes, ↓X_cons, ↓X_bin, ↓X_un, ↓X_ix, ↓X_B, ↓X_BF, ↓X_binF, ↓X_tup, ↓X_lst, ↓X_lstF, ↓X_bOf, ↓X_and, ↓X_or, ↓X_not, ↓BoK_b, ↓X_eAnd, ↓X_eOr, ↓X_eNot, ↓X_eIf, ↓X_sl, ↓X_fz, ↓X_chain, ↓X_call, ↓X_meth, ↓X_rng1, ↓X_rng2, ↓X_rng3, ↓X_iA, ↓X_lr1, ↓X_lr2, ↓X_kget, ↓X_make, ↓X_get2, ↓X_get1, ↓X_eDic, ↓LsK_l, ↓X_idx, ↓X_VO, ↓X_BO, ↓X_BFO, ↓X_binO, ↓X_ixO, ↓MuK_own, ↓OwK_own, ↓X_mut, ↓Y_nx, ↓Y_pass, ↓Y_brk, ↓Y_cnt, ↓Y_retN, ↓Y_seq, ↓Y_asg, ↓Y_set, ↓Y_own, ↓Y_dat, ↓Y_dic, ↓Y_ret, ↓Y_expr, ↓Y_if, ↓Y_par, ↓Y_par3, ↓AuK_dat, ↓Y_aug, ↓Y_for, ↓Y_while, ↓Y_setIx, slotAt_eq, slotO_own, slotO_dic, g_N, g_two, g_three, g_T, g_L, g_nil, g_cons, Option.bind_some, Option.map_some, List.getElem?_cons_zero, List.getElem?_cons_succ, List.set_cons_zero, List.set_cons_succ, ↓X_W, ↓DrK_d, ↓WkK_d, ↓RwK_ok, ↓X_fzM, ↓X_prn, ↓X_prc, ↓X_disp, ↓X_vD, ↓X_vO, ↓X_vM, ↓Y_parK, asB_b, asI_i, eqD_ii, neD_ii, ltD_ii, leD_ii, gtD_ii, geD_ii, addD_ii, subD_ii, lenD_l, lenD_t, List.length_map, List.length_range, ↓lt_l0, ↓lt_ls, ↓le_l0, ↓le_ls, ↓ln_p, ↓eq_l0, ↓eq_ls, ↓sm_l, if_true, if_false, isi_int_n, sizeB]
  | str => simp only [↓Ep_K, ↓Wp_K, ↓IteK_t, ↓IteK_f, ↓OpK_some, ↓AndK_t, ↓RsK_ok, ↓nxtK_nx, ↓nxtK_rt, ↓nxtK_bk, ↓nxtK_ct, ↓nxtK_ex, ↓VK_dat, ↓VK_own, ↓VK_dic, ↓X_V, ↓X_ret, ↓X_opt, ↓X_bind, ↓X_C, ↓X_nil, ↓X_no, ↓X_some, ↓X_yes, ↓X_cons, ↓X_bin, ↓X_un, ↓X_ix, ↓X_B, ↓X_BF, ↓X_binF, ↓X_tup, ↓X_lst, ↓X_lstF, ↓X_bOf, ↓X_and, ↓X_or, ↓X_not, ↓BoK_b, ↓X_eAnd, ↓X_eOr, ↓X_eNot, ↓X_eIf, ↓X_sl, ↓X_fz, ↓X_chain, ↓X_call, ↓X_meth, ↓X_rng1, ↓X_rng2, ↓X_rng3, ↓X_iA, ↓X_lr1, ↓X_lr2, ↓X_kget, ↓X_make, ↓X_get2, ↓X_get1, ↓X_eDic, ↓LsK_l, ↓X_idx, ↓X_VO, ↓X_BO, ↓X_BFO, ↓X_binO, ↓X_ixO, ↓MuK_own, ↓OwK_own, ↓X_mut, ↓Y_nx, ↓Y_pass, ↓Y_brk, ↓Y_cnt, ↓Y_retN, ↓Y_seq, ↓Y_asg, ↓Y_set, ↓Y_own, ↓Y_dat, ↓Y_dic, ↓Y_ret, ↓Y_expr, ↓Y_if, ↓Y_par, ↓Y_par3, ↓AuK_dat, ↓Y_aug, ↓Y_for, ↓Y_while, ↓Y_setIx, slotAt_eq, slotO_own, slotO_dic, g_N, g_two, g_three, g_T, g_L, g_nil, g_cons, Option.bind_some, Option.map_some, List.getElem?_cons_zero, List.getElem?_cons_succ, List.set_cons_zero, List.set_cons_succ, ↓X_W, ↓DrK_d, ↓WkK_d, ↓RwK_ok, ↓X_fzM, ↓X_prn, ↓X_prc, ↓X_disp, ↓X_vD, ↓X_vO, ↓X_vM, ↓Y_parK, asB_b, asI_i, eqD_ii, neD_ii, ltD_ii, leD_ii, gtD_ii, geD_ii, addD_ii, subD_ii, lenD_l, lenD_t, List.length_map, List.length_range, ↓lt_l0, ↓lt_ls, ↓le_l0, ↓le_ls, ↓ln_p, ↓eq_l0, ↓eq_ls, ↓sm_l, if_true, if_false, isi_int_s, sizeB]
  | list => simp only [↓Ep_K, ↓Wp_K, ↓IteK_t, ↓IteK_f, ↓OpK_some, ↓AndK_t, ↓RsK_ok, ↓nxtK_nx, ↓nxtK_rt, ↓nxtK_bk, ↓nxtK_ct, ↓nxtK_ex, ↓VK_dat, ↓VK_own, ↓VK_dic, ↓X_V, ↓X_ret, ↓X_opt, ↓X_bind, ↓X_C, ↓X_nil, ↓X_no, ↓X_some, ↓X_yes, ↓X_cons, ↓X_bin, ↓X_un, ↓X_ix, ↓X_B, ↓X_BF, ↓X_binF, ↓X_tup, ↓X_lst, ↓X_lstF, ↓X_bOf, ↓X_and, ↓X_or, ↓X_not, ↓BoK_b, ↓X_eAnd, ↓X_eOr, ↓X_eNot, ↓X_eIf, ↓X_sl, ↓X_fz, ↓X_chain, ↓X_call, ↓X_meth, ↓X_rng1, ↓X_rng2, ↓X_rng3, ↓X_iA, ↓X_lr1, ↓X_lr2, ↓X_kget, ↓X_make, ↓X_get2, ↓X_get1, ↓X_eDic, ↓LsK_l, ↓X_idx, ↓X_VO, ↓X_BO, ↓X_BFO, ↓X_binO, ↓X_ixO, ↓MuK_own, ↓OwK_own, ↓X_mut, ↓Y_nx, ↓Y_pass, ↓Y_brk, ↓Y_cnt, ↓Y_retN, ↓Y_seq, ↓Y_asg, ↓Y_set, ↓Y_own, ↓Y_dat, ↓Y_dic, ↓Y_ret, ↓Y_expr, ↓Y_if, ↓Y_par, ↓Y_par3, ↓AuK_dat, ↓Y_aug, ↓Y_for, ↓Y_while, ↓Y_setIx, slotAt_eq, slotO_own, slotO_dic, g_N, g_two, g_three, g_T, g_L, g_nil, g_cons, Option.bind_some, Option.map_some, List.getElem?_cons_zero, List.getElem?_cons_succ, List.set_cons_zero, List.set_cons_succ, ↓X_W, ↓DrK_d, ↓WkK_d, ↓RwK_ok, ↓X_fzM, ↓X_prn, ↓X_prc, ↓X_disp, ↓X_vD, ↓X_vO, ↓X_vM, ↓Y_parK, asB_b, asI_i, eqD_ii, neD_ii, ltD_ii, leD_ii, gtD_ii, geD_ii, addD_ii, subD_ii, lenD_l, lenD_t, List.length_map, List.length_range, ↓lt_l0, ↓lt_ls, ↓le_l0, ↓le_ls, ↓ln_p, ↓eq_l0, ↓eq_ls, ↓sm_l, if_true, if_false, isi_int_l, sizeB]
  | tuple => simp only [↓Ep_K, ↓Wp_K, ↓IteK_t, ↓IteK_f, ↓OpK_some, ↓AndK_t, ↓RsK_ok, ↓nxtK_nx, ↓nxtK_rt, ↓nxtK_bk, ↓nxtK_ct, ↓nxtK_ex, ↓VK_dat, ↓VK_own, ↓VK_dic, ↓X_V, ↓X_ret, ↓X_opt, ↓X_bind, ↓X_C, ↓X_nil, ↓X_no, ↓X_some, ↓X_yes, ↓X_cons, ↓X_bin, ↓X_un, ↓X_ix, ↓X_B, ↓X_BF, ↓X_binF, ↓X_tup, ↓X_lst, ↓X_lstF, ↓X_bOf, ↓X_and, ↓X_or, ↓X_not, ↓BoK_b, ↓X_eAnd, ↓X_eOr, ↓X_eNot, ↓X_eIf, ↓X_sl, ↓X_fz, ↓X_chain, ↓X_call, ↓X_meth, ↓X_rng1, ↓X_rng2, ↓X_rng3, ↓X_iA, ↓X_lr1, ↓X_lr2, ↓X_kget, ↓X_make, ↓X_get2, ↓X_get1, ↓X_eDic, ↓LsK_l, ↓X_idx, ↓X_VO, ↓X_BO, ↓X_BFO, ↓X_binO, ↓X_ixO, ↓MuK_own, ↓OwK_own, ↓X_mut, ↓Y_nx, ↓Y_pass, ↓Y_brk, ↓Y_cnt, ↓Y_retN, ↓Y_seq, ↓Y_asg, ↓Y_set, ↓Y_own, ↓Y_dat, ↓Y_dic, ↓Y_ret, ↓Y_expr, ↓Y_if, ↓Y_par, ↓Y_par3, ↓AuK_dat, ↓Y_aug, ↓Y_for, ↓Y_while, ↓Y_setIx, slotAt_eq, slotO_own, slotO_dic, g_N, g_two, g_three, g_T, g_L, g_nil, g_cons, Option.bind_some, Option.map_some, List.getElem?_cons_zero, List.getElem?_cons_succ, List.set_cons_zero, List.set_cons_succ, ↓X_W, ↓DrK_d, ↓WkK_d, ↓RwK_ok, ↓X_fzM, ↓X_prn, ↓X_prc, ↓X_disp, ↓X_vD, ↓X_vO, ↓X_vM, ↓Y_parK, asB_b, asI_i, eqD_ii, neD_ii, ltD_ii, leD_ii, gtD_ii, geD_ii, addD_ii, subD_ii, lenD_l, lenD_t, List.length_map, List.length_range, ↓lt_l0, ↓lt_ls, ↓le_l0, ↓le_ls, ↓ln_p, ↓eq_l0, ↓eq_ls, ↓sm_l, if_true, if_false, isi_int_t, sizeB]
theorem dec0 (k : Nat) : (!decide ((k : Int) = 0)) = (k != 0) := by
  rw [Bool.eq_iff_iff]
  simp
theorem weight_eq {d : D} {xs : List Nat} (h : Row d xs) (hl : xs.length ≤ 1000000) : f_weight [d] = .ok (.int ((xs.filter fun k => k != 0).length : Nat)) := by
  refine RsK.eq (R_run2 ?_)
  show Wp b_weight [.dat d, .un] _
  unfold b_weight
  simp only [↓Ep_K, ↓Wp_K, ↓IteK_t, ↓IteK_f, ↓OpK_some, ↓AndK_t, ↓RsK_ok, ↓nxtK_nx, ↓nxtK_rt, ↓nxtK_bk, ↓nxtK_ct, ↓nxtK_ex, ↓VK_dat, ↓VK_own, ↓VK_dic, ↓X_V, ↓X_ret, ↓X_opt, ↓X_bind, ↓X_C, ↓X_nil, ↓X_no, ↓X_some, ↓X_yes, ↓X_cons, ↓X_bin, ↓X_un, ↓X_ix, ↓X_B, ↓X_BF, ↓X_binF, ↓X_tup, ↓X_lst, ↓X_lstF, ↓X_bOf, ↓X_and, ↓X_or, ↓X_not, ↓BoK_b, ↓X_eAnd, ↓X_eOr, ↓X_eNot, ↓X_eIf, ↓X_sl, ↓X_fz, ↓X_chain, ↓X_call, ↓X_meth, ↓X_rng1, ↓X_rng2, ↓X_rng3, ↓X_iA, ↓X_lr1, ↓X_lr2, ↓X_kget, ↓X_make, ↓X_get2, ↓X_get1, ↓X_eDic, ↓LsK_l, ↓X_idx, ↓X_VO, ↓X_BO, ↓X_BFO, ↓X_binO, ↓X_ixO, ↓MuK_own, ↓OwK_own, ↓X_mut, ↓Y_nx, ↓Y_pass, ↓Y_brk, ↓Y_cnt, ↓Y_retN, ↓Y_seq, ↓Y_asg, ↓Y_set, ↓Y_own, ↓Y_dat, ↓Y_dic, ↓Y_ret, ↓Y_expr, ↓Y_if, ↓Y_par, ↓Y_par3, ↓AuK_dat, ↓Y_aug, ↓Y_for, ↓Y_while, ↓Y_setIx, slotAt_eq, slotO_own, slotO_dic, g_N, g_two, g_three, g_T, g_L, g_nil, g_cons, Option.bind_some, Option.map_some, List.getElem?_cons_zero, List.getElem?_cons_succ, List.set_cons_zero, List.set_cons_succ, ↓X_W, ↓DrK_d, ↓WkK_d, ↓RwK_ok, ↓X_fzM, ↓X_prn, ↓X_prc, ↓X_disp, ↓X_vD, ↓X_vO, ↓X_vM, ↓Y_parK, asB_b, asI_i, eqD_ii, neD_ii, ltD_ii, leD_ii, gtD_ii, geD_ii, addD_ii, subD_ii, lenD_l, lenD_t, List.length_map, List.length_range, ↓lt_l0, ↓lt_ls, ↓le_l0, ↓le_ls, ↓ln_p, ↓eq_l0, ↓eq_ls, ↓sm_l, if_true, if_false]
  refine E_selG nI xs (fun k => k != 0) nI ?_ (by simp) rfl hl (fun x hx => ?_) (fun x hx _ => ?_) ?_
  · simp only [↓Ep_K, ↓Wp_K, ↓IteK_t, ↓IteK_f, ↓OpK_some, ↓AndK_t, ↓RsK_ok, ↓nxtK_nx, ↓nxtK_rt, ↓nxtK_bk, ↓nxtK_ct, ↓nxtK_ex, ↓VK_dat, ↓VK_own, ↓VK_dic, ↓X_V, ↓X_ret, ↓X_opt, ↓X_bind, ↓X_C, ↓X_nil, ↓X_no, ↓X_some, ↓X_yes, ↓X_cons, ↓X_bin, ↓X_un, ↓X_ix, ↓X_B, ↓X_BF, ↓X_binF, ↓X_tup, ↓X_lst, ↓X_lstF, ↓X_bOf, ↓X_and, ↓X_or, ↓X_not, ↓BoK_b, ↓X_eAnd, ↓X_eOr, ↓X_eNot, ↓X_eIf, ↓X_sl, ↓X_fz, ↓X_chain, ↓X_call, ↓X_meth, ↓X_rng1, ↓X_rng2, ↓X_rng3, ↓X_iA, ↓X_lr1, ↓X_lr2, ↓X_kget, ↓X_make, ↓X_get2, ↓X_get1, ↓X_eDic, ↓LsK_l, ↓X_idx, ↓X_VO, ↓X_BO, ↓X_BFO, ↓X_binO, ↓X_ixO, ↓MuK_own, ↓OwK_own, ↓X_mut, ↓Y_nx, ↓Y_pass, ↓Y_brk, ↓Y_cnt, ↓Y_retN, ↓Y_seq, ↓Y_asg, ↓Y_set, ↓Y_own, ↓Y_dat, ↓Y_dic, ↓Y_ret, ↓Y_expr, ↓Y_if, ↓Y_par, ↓Y_par3, ↓AuK_dat, ↓Y_aug, ↓Y_for, ↓Y_while, ↓Y_setIx, slotAt_eq, slotO_own, slotO_dic, g_N, g_two, g_three, g_T, g_L, g_nil, g_cons, Option.bind_some, Option.map_some, List.getElem?_cons_zero, List.getElem?_cons_succ, List.set_cons_zero, List.set_cons_succ, ↓X_W, ↓DrK_d, ↓WkK_d, ↓RwK_ok, ↓X_fzM, ↓X_prn, ↓X_prc, ↓X_disp, ↓X_vD, ↓X_vO, ↓X_vM, ↓Y_parK, asB_b, asI_i, eqD_ii, neD_ii, ltD_ii, leD_ii, gtD_ii, geD_ii, addD_ii, subD_ii, lenD_l, lenD_t, List.length_map, List.length_range, ↓lt_l0, ↓lt_ls, ↓le_l0, ↓le_ls, ↓ln_p, ↓eq_l0, ↓eq_ls, ↓sm_l, if_true, if_false, h.walk, and_self]
  · simp only [↓Ep_K, ↓Wp_K, ↓IteK_t, ↓IteK_f, ↓OpK_some, ↓AndK_t, ↓RsK_ok, ↓nxtK_nx, ↓nxtK_rt, ↓nxtK_bk, ↓nxtK_ct, ↓nxtK_ex, ↓VK_dat, ↓VK_own, ↓VK_dic, ↓X_V, ↓X_ret, ↓X_opt, ↓X_bind, ↓X_C, ↓X_nil, ↓X_no, ↓X_some, ↓X_yes, ↓X_cons, ↓X_bin, ↓X_un, ↓X_ix, ↓X_B, ↓X_BF, ↓X_binF, ↓X_tup, ↓X_lst, ↓X_lstF, ↓X_bOf, ↓X_and, ↓X_or, ↓X_not, ↓BoK_b, ↓X_eAnd, ↓X_eOr, ↓X_eNot, ↓X_eIf, ↓X_sl, ↓X_fz, ↓X_chain, ↓X_call, ↓X_meth, ↓X_rng1, ↓X_rng2, ↓X_rng3, ↓X_iA, ↓X_lr1, ↓X_lr2, ↓X_kget, ↓X_make, ↓X_get2, ↓X_get1, ↓X_eDic, ↓LsK_l, ↓X_idx, ↓X_VO, ↓X_BO, ↓X_BFO, ↓X_binO, ↓X_ixO, ↓MuK_own, ↓OwK_own, ↓X_mut, ↓Y_nx, ↓Y_pass, ↓Y_brk, ↓Y_cnt, ↓Y_retN, ↓Y_seq, ↓Y_asg, ↓Y_set, ↓Y_own, ↓Y_dat, ↓Y_dic, ↓Y_ret, ↓Y_expr, ↓Y_if, ↓Y_par, ↓Y_par3, ↓AuK_dat, ↓Y_aug, ↓Y_for, ↓Y_while, ↓Y_setIx, slotAt_eq, slotO_own, slotO_dic, g_N, g_two, g_three, g_T, g_L, g_nil, g_cons, Option.bind_some, Option.map_some, List.getElem?_cons_zero, List.getElem?_cons_succ, List.set_cons_zero, List.set_cons_succ, ↓X_W, ↓DrK_d, ↓WkK_d, ↓RwK_ok, ↓X_fzM, ↓X_prn, ↓X_prc, ↓X_disp, ↓X_vD, ↓X_vO, ↓X_vM, ↓Y_parK, asB_b, asI_i, eqD_ii, neD_ii, ltD_ii, leD_ii, gtD_ii, geD_ii, addD_ii, subD_ii, lenD_l, lenD_t, List.length_map, List.length_range, ↓lt_l0, ↓lt_ls, ↓le_l0, ↓le_ls, ↓ln_p, ↓eq_l0, ↓eq_ls, ↓sm_l, if_true, if_false, nI_eq, dec0, and_self]
  · simp only [↓Ep_K, ↓Wp_K, ↓IteK_t, ↓IteK_f, ↓OpK_some, ↓AndK_t, ↓RsK_ok, ↓nxtK_nx, ↓nxtK_rt, ↓nxtK_bk, ↓nxtK_ct, ↓nxtK_ex, ↓VK_dat, ↓VK_own, ↓VK_dic, ↓X_V, ↓X_ret, ↓X_opt, ↓X_bind, ↓X_C, ↓X_nil, ↓X_no, ↓X_some, ↓X_yes, ↓X_cons, ↓X_bin, ↓X_un, ↓X_ix, ↓X_B, ↓X_BF, ↓X_binF, ↓X_tup, ↓X_lst, ↓X_lstF, ↓X_bOf, ↓X_and, ↓X_or, ↓X_not, ↓BoK_b, ↓X_eAnd, ↓X_eOr, ↓X_eNot, ↓X_eIf, ↓X_sl, ↓X_fz, ↓X_chain, ↓X_call, ↓X_meth, ↓X_rng1, ↓X_rng2, ↓X_rng3, ↓X_iA, ↓X_lr1, ↓X_lr2, ↓X_kget, ↓X_make, ↓X_get2, ↓X_get1, ↓X_eDic, ↓LsK_l, ↓X_idx, ↓X_VO, ↓X_BO, ↓X_BFO, ↓X_binO, ↓X_ixO, ↓MuK_own, ↓OwK_own, ↓X_mut, ↓Y_nx, ↓Y_pass, ↓Y_brk, ↓Y_cnt, ↓Y_retN, ↓Y_seq, ↓Y_asg, ↓Y_set, ↓Y_own, ↓Y_dat, ↓Y_dic, ↓Y_ret, ↓Y_expr, ↓Y_if, ↓Y_par, ↓Y_par3, ↓AuK_dat, ↓Y_aug, ↓Y_for, ↓Y_while, ↓Y_setIx, slotAt_eq, slotO_own, slotO_dic, g_N, g_two, g_three, g_T, g_L, g_nil, g_cons, Option.bind_some, Option.map_some, List.getElem?_cons_zero, List.getElem?_cons_succ, List.set_cons_zero, List.set_cons_succ, ↓X_W, ↓DrK_d, ↓WkK_d, ↓RwK_ok, ↓X_fzM, ↓X_prn, ↓X_prc, ↓X_disp, ↓X_vD, ↓X_vO, ↓X_vM, ↓Y_parK, asB_b, asI_i, eqD_ii, neD_ii, ltD_ii, leD_ii, gtD_ii, geD_ii, addD_ii, subD_ii, lenD_l, lenD_t, List.length_map, List.length_range, ↓lt_l0, ↓lt_ls, ↓le_l0, ↓le_ls, ↓ln_p, ↓eq_l0, ↓eq_ls, ↓sm_l, if_true, if_false, and_self]
  · simp only [↓Ep_K, ↓Wp_K, ↓IteK_t, ↓IteK_f, ↓OpK_some, ↓AndK_t, ↓RsK_ok, ↓nxtK_nx, ↓nxtK_rt, ↓nxtK_bk, ↓nxtK_ct, ↓nxtK_ex, ↓VK_dat, ↓VK_own, ↓VK_dic, ↓X_V, ↓X_ret, ↓X_opt, ↓X_bind, ↓X_C, ↓X_nil, ↓X_no, ↓X_some, ↓X_yes, ↓X_cons, ↓X_bin, ↓X_un, ↓X_ix, ↓X_B, ↓X_BF, ↓X_binF, ↓X_tup, ↓X_lst, ↓X_lstF, ↓X_bOf, ↓X_and, ↓X_or, ↓X_not, ↓BoK_b, ↓X_eAnd, ↓X_eOr, ↓X_eNot, ↓X_eIf, ↓X_sl, ↓X_fz, ↓X_chain, ↓X_call, ↓X_meth, ↓X_rng1, ↓X_rng2, ↓X_rng3, ↓X_iA, ↓X_lr1, ↓X_lr2, ↓X_kget, ↓X_make, ↓X_get2, ↓X_get1, ↓X_eDic, ↓LsK_l, ↓X_idx, ↓X_VO, ↓X_BO, ↓X_BFO, ↓X_binO, ↓X_ixO, ↓MuK_own, ↓OwK_own, ↓X_mut, ↓Y_nx, ↓Y_pass, ↓Y_brk, ↓Y_cnt, ↓Y_retN, ↓Y_seq, ↓Y_asg, ↓Y_set, ↓Y_own, ↓Y_dat, ↓Y_dic, ↓Y_ret, ↓Y_expr, ↓Y_if, ↓Y_par, ↓Y_par3, ↓AuK_dat, ↓Y_aug, ↓Y_for, ↓Y_while, ↓Y_setIx, slotAt_eq, slotO_own, slotO_dic, g_N, g_two, g_three, g_T, g_L, g_nil, g_cons, Option.bind_some, Option.map_some, List.getElem?_cons_zero, List.getElem?_cons_succ, List.set_cons_zero, List.set_cons_succ, ↓X_W, ↓DrK_d, ↓WkK_d, ↓RwK_ok, ↓X_fzM, ↓X_prn, ↓X_prc, ↓X_disp, ↓X_vD, ↓X_vO, ↓X_vM, ↓Y_parK, asB_b, asI_i, eqD_ii, neD_ii, ltD_ii, leD_ii, gtD_ii, geD_ii, addD_ii, subD_ii, lenD_l, lenD_t, List.length_map, List.length_range, ↓lt_l0, ↓lt_ls, ↓le_l0, ↓le_ls, ↓ln_p, ↓eq_l0, ↓eq_ls, ↓sm_l, if_true, if_false]
def fdist (xs ys : List Nat) : Nat := ((List.range xs.length).filter fun k => xs.getD k 0 != ys.getD k 0).length
theorem decN (k l : Nat) : (!decide ((k : Int) = l)) = (k != l) := by
  rw [Bool.eq_iff_iff]
  simp
  omega
theorem distance_eq {a b : D} {xs ys : List Nat} (ha : Row a xs) (hb : Row b ys) (hl : xs.length ≤ ys.length) (hs : xs.length ≤ 1000000) : f_distance [a, b] = .ok (.int (fdist xs ys : Nat)) := by
  refine RsK.eq (R_run2 ?_)
  show Wp b_distance [.dat a, .dat b, .un] _
  unfold b_distance
  simp only [↓Ep_K, ↓Wp_K, ↓IteK_t, ↓IteK_f, ↓OpK_some, ↓AndK_t, ↓RsK_ok, ↓nxtK_nx, ↓nxtK_rt, ↓nxtK_bk, ↓nxtK_ct, ↓nxtK_ex, ↓VK_dat, ↓VK_own, ↓VK_dic, ↓X_V, ↓X_ret, ↓X_opt, ↓X_bind, ↓X_C, ↓X_nil, ↓X_no, ↓X_some, ↓X_yes, ↓X_cons, ↓X_bin, ↓X_un, ↓X_ix, ↓X_B, ↓X_BF, ↓X_binF, ↓X_tup, ↓X_lst, ↓X_lstF, ↓X_bOf, ↓X_and, ↓X_or, ↓X_not, ↓BoK_b, ↓X_eAnd, ↓X_eOr, ↓X_eNot, ↓X_eIf, ↓X_sl, ↓X_fz, ↓X_chain, ↓X_call, ↓X_meth, ↓X_rng1, ↓X_rng2, ↓X_rng3, ↓X_iA, ↓X_lr1, ↓X_lr2, ↓X_kget, ↓X_make, ↓X_get2, ↓X_get1, ↓X_eDic, ↓LsK_l, ↓X_idx, ↓X_VO, ↓X_BO, ↓X_BFO, ↓X_binO, ↓X_ixO, ↓MuK_own, ↓OwK_own, ↓X_mut, ↓Y_nx, ↓Y_pass, ↓Y_brk, ↓Y_cnt, ↓Y_retN, ↓Y_seq, ↓Y_asg, ↓Y_set, ↓Y_own, ↓Y_dat, ↓Y_dic, ↓Y_ret, ↓Y_expr, ↓Y_if, ↓Y_par, ↓Y_par3, ↓AuK_dat, ↓Y_aug, ↓Y_for, ↓Y_while, ↓Y_setIx, slotAt_eq, slotO_own, slotO_dic, g_N, g_two, g_three, g_T, g_L, g_nil, g_cons, Option.bind_some, Option.map_some, List.getElem?_cons_zero, List.getElem?_cons_succ, List.set_cons_zero, List.set_cons_succ, ↓X_W, ↓DrK_d, ↓WkK_d, ↓RwK_ok, ↓X_fzM, ↓X_prn, ↓X_prc, ↓X_disp, ↓X_vD, ↓X_vO, ↓X_vM, ↓Y_parK, asB_b, asI_i, eqD_ii, neD_ii, ltD_ii, leD_ii, gtD_ii, geD_ii, addD_ii, subD_ii, lenD_l, lenD_t, List.length_map, List.length_range, ↓lt_l0, ↓lt_ls, ↓le_l0, ↓le_ls, ↓ln_p, ↓eq_l0, ↓eq_ls, ↓sm_l, if_true, if_false]
  refine E_selG nI (List.range xs.length) (fun k => xs.getD k 0 != ys.getD k 0) nI ?_ (by simp) rfl (by simpa using hs) (fun x hx => ?_) (fun x hx _ => ?_) ?_
  · simp only [↓Ep_K, ↓Wp_K, ↓IteK_t, ↓IteK_f, ↓OpK_some, ↓AndK_t, ↓RsK_ok, ↓nxtK_nx, ↓nxtK_rt, ↓nxtK_bk, ↓nxtK_ct, ↓nxtK_ex, ↓VK_dat, ↓VK_own, ↓VK_dic, ↓X_V, ↓X_ret, ↓X_opt, ↓X_bind, ↓X_C, ↓X_nil, ↓X_no, ↓X_some, ↓X_yes, ↓X_cons, ↓X_bin, ↓X_un, ↓X_ix, ↓X_B, ↓X_BF, ↓X_binF, ↓X_tup, ↓X_lst, ↓X_lstF, ↓X_bOf, ↓X_and, ↓X_or, ↓X_not, ↓BoK_b, ↓X_eAnd, ↓X_eOr, ↓X_eNot, ↓X_eIf, ↓X_sl, ↓X_fz, ↓X_chain, ↓X_call, ↓X_meth, ↓X_rng1, ↓X_rng2, ↓X_rng3, ↓X_iA, ↓X_lr1, ↓X_lr2, ↓X_kget, ↓X_make, ↓X_get2, ↓X_get1, ↓X_eDic, ↓LsK_l, ↓X_idx, ↓X_VO, ↓X_BO, ↓X_BFO, ↓X_binO, ↓X_ixO, ↓MuK_own, ↓OwK_own, ↓X_mut, ↓Y_nx, ↓Y_pass, ↓Y_brk, ↓Y_cnt, ↓Y_retN, ↓Y_seq, ↓Y_asg, ↓Y_set, ↓Y_own, ↓Y_dat, ↓Y_dic, ↓Y_ret, ↓Y_expr, ↓Y_if, ↓Y_par, ↓Y_par3, ↓AuK_dat, ↓Y_aug, ↓Y_for, ↓Y_while, ↓Y_setIx, slotAt_eq, slotO_own, slotO_dic, g_N, g_two, g_three, g_T, g_L, g_nil, g_cons, Option.bind_some, Option.map_some, List.getElem?_cons_zero, List.getElem?_cons_succ, List.set_cons_zero, List.set_cons_succ, ↓X_W, ↓DrK_d, ↓WkK_d, ↓RwK_ok, ↓X_fzM, ↓X_prn, ↓X_prc, ↓X_disp, ↓X_vD, ↓X_vO, ↓X_vM, ↓Y_parK, asB_b, asI_i, eqD_ii, neD_ii, ltD_ii, leD_ii, gtD_ii, geD_ii, addD_ii, subD_ii, lenD_l, lenD_t, List.length_map, List.length_range, ↓lt_l0, ↓lt_ls, ↓le_l0, ↓le_ls, ↓ln_p, ↓eq_l0, ↓eq_ls, ↓sm_l, if_true, if_false, ha.len, rng1_ok (n := xs.length) (by omega), list_range, and_self]
  · have hx := List.mem_range.mp hx
    simp only [↓Ep_K, ↓Wp_K, ↓IteK_t, ↓IteK_f, ↓OpK_some, ↓AndK_t, ↓RsK_ok, ↓nxtK_nx, ↓nxtK_rt, ↓nxtK_bk, ↓nxtK_ct, ↓nxtK_ex, ↓VK_dat, ↓VK_own, ↓VK_dic, ↓X_V, ↓X_ret, ↓X_opt, ↓X_bind, ↓X_C, ↓X_nil, ↓X_no, ↓X_some, ↓X_yes, ↓X_cons, ↓X_bin, ↓X_un, ↓X_ix, ↓X_B, ↓X_BF, ↓X_binF, ↓X_tup, ↓X_lst, ↓X_lstF, ↓X_bOf, ↓X_and, ↓X_or, ↓X_not, ↓BoK_b, ↓X_eAnd, ↓X_eOr, ↓X_eNot, ↓X_eIf, ↓X_sl, ↓X_fz, ↓X_chain, ↓X_call, ↓X_meth, ↓X_rng1, ↓X_rng2, ↓X_rng3, ↓X_iA, ↓X_lr1, ↓X_lr2, ↓X_kget, ↓X_make, ↓X_get2, ↓X_get1, ↓X_eDic, ↓LsK_l, ↓X_idx, ↓X_VO, ↓X_BO, ↓X_BFO, ↓X_binO, ↓X_ixO, ↓MuK_own, ↓OwK_own, ↓X_mut, ↓Y_nx, ↓Y_pass, ↓Y_brk, ↓Y_cnt, ↓Y_retN, ↓Y_seq, ↓Y_asg, ↓Y_set, ↓Y_own, ↓Y_dat, ↓Y_dic, ↓Y_ret, ↓Y_expr, ↓Y_if, ↓Y_par, ↓Y_par3, ↓AuK_dat, ↓Y_aug, ↓Y_for, ↓Y_while, ↓Y_setIx, slotAt_eq, slotO_own, slotO_dic, g_N, g_two, g_three, g_T, g_L, g_nil, g_cons, Option.bind_some, Option.map_some, List.getElem?_cons_zero, List.getElem?_cons_succ, List.set_cons_zero, List.set_cons_succ, ↓X_W, ↓DrK_d, ↓WkK_d, ↓RwK_ok, ↓X_fzM, ↓X_prn, ↓X_prc, ↓X_disp, ↓X_vD, ↓X_vO, ↓X_vM, ↓Y_parK, asB_b, asI_i, eqD_ii, neD_ii, ltD_ii, leD_ii, gtD_ii, geD_ii, addD_ii, subD_ii, lenD_l, lenD_t, List.length_map, List.length_range, ↓lt_l0, ↓lt_ls, ↓le_l0, ↓le_ls, ↓ln_p, ↓eq_l0, ↓eq_ls, ↓sm_l, if_true, if_false, nI_eq, ha.ix hx, hb.ix (show x < ys.length by omega), decN, and_self]
  · simp only [↓Ep_K, ↓Wp_K, ↓IteK_t, ↓IteK_f, ↓OpK_some, ↓AndK_t, ↓RsK_ok, ↓nxtK_nx, ↓nxtK_rt, ↓nxtK_bk, ↓nxtK_ct, ↓nxtK_ex, ↓VK_dat, ↓VK_own, ↓VK_dic, ↓X_V, ↓X_ret, ↓X_opt, ↓X_bind, ↓X_C, ↓X_nil, ↓X_no, ↓X_some, ↓X_yes, ↓X_cons, ↓X_bin, ↓X_un, ↓X_ix, ↓X_B, ↓X_BF, ↓X_binF, ↓X_tup, ↓X_lst, ↓X_lstF, ↓X_bOf, ↓X_and, ↓X_or, ↓X_not, ↓BoK_b, ↓X_eAnd, ↓X_eOr, ↓X_eNot, ↓X_eIf, ↓X_sl, ↓X_fz, ↓X_chain, ↓X_call, ↓X_meth, ↓X_rng1, ↓X_rng2, ↓X_rng3, ↓X_iA, ↓X_lr1, ↓X_lr2, ↓X_kget, ↓X_make, ↓X_get2, ↓X_get1, ↓X_eDic, ↓LsK_l, ↓X_idx, ↓X_VO, ↓X_BO, ↓X_BFO, ↓X_binO, ↓X_ixO, ↓MuK_own, ↓OwK_own, ↓X_mut, ↓Y_nx, ↓Y_pass, ↓Y_brk, ↓Y_cnt, ↓Y_retN, ↓Y_seq, ↓Y_asg, ↓Y_set, ↓Y_own, ↓Y_dat, ↓Y_dic, ↓Y_ret, ↓Y_expr, ↓Y_if, ↓Y_par, ↓Y_par3, ↓AuK_dat, ↓Y_aug, ↓Y_for, ↓Y_while, ↓Y_setIx, slotAt_eq, slotO_own, slotO_dic, g_N, g_two, g_three, g_T, g_L, g_nil, g_cons, Option.bind_some, Option.map_some, List.getElem?_cons_zero, List.getElem?_cons_succ, List.set_cons_zero, List.set_cons_succ, ↓X_W, ↓DrK_d, ↓WkK_d, ↓RwK_ok, ↓X_fzM, ↓X_prn, ↓X_prc, ↓X_disp, ↓X_vD, ↓X_vO, ↓X_vM, ↓Y_parK, asB_b, asI_i, eqD_ii, neD_ii, ltD_ii, leD_ii, gtD_ii, geD_ii, addD_ii, subD_ii, lenD_l, lenD_t, List.length_map, List.length_range, ↓lt_l0, ↓lt_ls, ↓le_l0, ↓le_ls, ↓ln_p, ↓eq_l0, ↓eq_ls, ↓sm_l, if_true, if_false, and_self]
  · simp only [↓Ep_K, ↓Wp_K, ↓IteK_t, ↓IteK_f, ↓OpK_some, ↓AndK_t, ↓RsK_ok, ↓nxtK_nx, ↓nxtK_rt, ↓nxtK_bk, ↓nxtK_ct, ↓nxtK_ex, ↓VK_dat, ↓VK_own, ↓VK_dic, ↓X_V, ↓X_ret, ↓X_opt, ↓X_bind, ↓X_C, ↓X_nil, ↓X_no, ↓X_some, ↓X_yes, ↓X_cons, ↓X_bin, ↓X_un, ↓X_ix, ↓X_B, ↓X_BF, ↓X_binF, ↓X_tup, ↓X_lst, ↓X_lstF, ↓X_bOf, ↓X_and, ↓X_or, ↓X_not, ↓BoK_b, ↓X_eAnd, ↓X_eOr, ↓X_eNot, ↓X_eIf, ↓X_sl, ↓X_fz, ↓X_chain, ↓X_call, ↓X_meth, ↓X_rng1, ↓X_rng2, ↓X_rng3, ↓X_iA, ↓X_lr1, ↓X_lr2, ↓X_kget, ↓X_make, ↓X_get2, ↓X_get1, ↓X_eDic, ↓LsK_l, ↓X_idx, ↓X_VO, ↓X_BO, ↓X_BFO, ↓X_binO, ↓X_ixO, ↓MuK_own, ↓OwK_own, ↓X_mut, ↓Y_nx, ↓Y_pass, ↓Y_brk, ↓Y_cnt, ↓Y_retN, ↓Y_seq, ↓Y_asg, ↓Y_set, ↓Y_own, ↓Y_dat, ↓Y_dic, ↓Y_ret, ↓Y_expr, ↓Y_if, ↓Y_par, ↓Y_par3, ↓AuK_dat, ↓Y_aug, ↓Y_for, ↓Y_while, ↓Y_setIx, slotAt_eq, slotO_own, slotO_dic, g_N, g_two, g_three, g_T, g_L, g_nil, g_cons, Option.bind_some, Option.map_some, List.getElem?_cons_zero, List.getElem?_cons_succ, List.set_cons_zero, List.set_cons_succ, ↓X_W, ↓DrK_d, ↓WkK_d, ↓RwK_ok, ↓X_fzM, ↓X_prn, ↓X_prc, ↓X_disp, ↓X_vD, ↓X_vO, ↓X_vM, ↓Y_parK, asB_b, asI_i, eqD_ii, neD_ii, ltD_ii, leD_ii, gtD_ii, geD_ii, addD_ii, subD_ii, lenD_l, lenD_t, List.length_map, List.length_range, ↓lt_l0, ↓lt_ls, ↓le_l0, ↓le_ls, ↓ln_p, ↓eq_l0, ↓eq_ls, ↓sm_l, if_true, if_false]
    rfl
def fsup (xs : List Nat) : List Nat := (List.range xs.length).filter fun k => xs.getD k 0 != 0
theorem support_eq {a : D} {xs : List Nat} (ha : Row a xs) (hs : xs.length ≤ 1000000) : f_support [a] = .ok (.tuple ((fsup xs).map nI)) := by
  refine RsK.eq (R_run2 ?_)
  show Wp b_support [.dat a, .un] _
  unfold b_support
  simp only [↓Ep_K, ↓Wp_K, ↓IteK_t, ↓IteK_f, ↓OpK_some, ↓AndK_t, ↓RsK_ok, ↓nxtK_nx, ↓nxtK_rt, ↓nxtK_bk, ↓nxtK_ct, ↓nxtK_ex, ↓VK_dat, ↓VK_own, ↓VK_dic, ↓X_V, ↓X_ret, ↓X_opt, ↓X_bind, ↓X_C, ↓X_nil, ↓X_no, ↓X_some, ↓X_yes, ↓X_cons, ↓X_bin, ↓X_un, ↓X_ix, ↓X_B, ↓X_BF, ↓X_binF, ↓X_tup, ↓X_lst, ↓X_lstF, ↓X_bOf, ↓X_and, ↓X_or, ↓X_not, ↓BoK_b, ↓X_eAnd, ↓X_eOr, ↓X_eNot, ↓X_eIf, ↓X_sl, ↓X_fz, ↓X_chain, ↓X_call, ↓X_meth, ↓X_rng1, ↓X_rng2, ↓X_rng3, ↓X_iA, ↓X_lr1, ↓X_lr2, ↓X_kget, ↓X_make, ↓X_get2, ↓X_get1, ↓X_eDic, ↓LsK_l, ↓X_idx, ↓X_VO, ↓X_BO, ↓X_BFO, ↓X_binO, ↓X_ixO, ↓MuK_own, ↓OwK_own, ↓X_mut, ↓Y_nx, ↓Y_pass, ↓Y_brk, ↓Y_cnt, ↓Y_retN, ↓Y_seq, ↓Y_asg, ↓Y_set, ↓Y_own, ↓Y_dat, ↓Y_dic, ↓Y_ret, ↓Y_expr, ↓Y_if, ↓Y_par, ↓Y_par3, ↓AuK_dat, ↓Y_aug, ↓Y_for, ↓Y_while, ↓Y_setIx, slotAt_eq, slotO_own, slotO_dic, g_N, g_two, g_three, g_T, g_L, g_nil, g_cons, Option.bind_some, Option.map_some, List.getElem?_cons_zero, List.getElem?_cons_succ, List.set_cons_zero, List.set_cons_succ, ↓X_W, ↓DrK_d, ↓WkK_d, ↓RwK_ok, ↓X_fzM, ↓X_prn, ↓X_prc, ↓X_disp, ↓X_vD, ↓X_vO, ↓X_vM, ↓Y_parK, asB_b, asI_i, eqD_ii, neD_ii, ltD_ii, leD_ii, gtD_ii, geD_ii, addD_ii, subD_ii, lenD_l, lenD_t, List.length_map, List.length_range, ↓lt_l0, ↓lt_ls, ↓le_l0, ↓le_ls, ↓ln_p, ↓eq_l0, ↓eq_ls, ↓sm_l, if_true, if_false]
  refine E_selG nI (List.range xs.length) (fun k => xs.getD k 0 != 0) nI ?_ (by simp) rfl (by simpa using hs) (fun x hx => ?_) (fun x hx _ => ?_) ?_
  · simp only [↓Ep_K, ↓Wp_K, ↓IteK_t, ↓IteK_f, ↓OpK_some, ↓AndK_t, ↓RsK_ok, ↓nxtK_nx, ↓nxtK_rt, ↓nxtK_bk, ↓nxtK_ct, ↓nxtK_ex, ↓VK_dat, ↓VK_own, ↓VK_dic, ↓X_V, ↓X_ret, ↓X_opt, ↓X_bind, ↓X_C, ↓X_nil, ↓X_no, ↓X_some, ↓X_yes, ↓X_cons, ↓X_bin, ↓X_un, ↓X_ix, ↓X_B, ↓X_BF, ↓X_binF, ↓X_tup, ↓X_lst, ↓X_lstF, ↓X_bOf, ↓X_and, ↓X_or, ↓X_not, ↓BoK_b, ↓X_eAnd, ↓X_eOr, ↓X_eNot, ↓X_eIf, ↓X_sl, ↓X_fz, ↓X_chain, ↓X_call, ↓X_meth, ↓X_rng1, ↓X_rng2, ↓X_rng3, ↓X_iA, ↓X_lr1, ↓X_lr2, ↓X_kget, ↓X_make, ↓X_get2, ↓X_get1, ↓X_eDic, ↓LsK_l, ↓X_idx, ↓X_VO, ↓X_BO, ↓X_BFO, ↓X_binO, ↓X_ixO, ↓MuK_own, ↓OwK_own, ↓X_mut, ↓Y_nx, ↓Y_pass, ↓Y_brk, ↓Y_cnt, ↓Y_retN, ↓Y_seq, ↓Y_asg, ↓Y_set, ↓Y_own, ↓Y_dat, ↓Y_dic, ↓Y_ret, ↓Y_expr, ↓Y_if, ↓Y_par, ↓Y_par3, ↓AuK_dat, ↓Y_aug, ↓Y_for, ↓Y_while, ↓Y_setIx, slotAt_eq, slotO_own, slotO_dic, g_N, g_two, g_three, g_T, g_L, g_nil, g_cons, Option.bind_some, Option.map_some, List.getElem?_cons_zero, List.getElem?_cons_succ, List.set_cons_zero, List.set_cons_succ, ↓X_W, ↓DrK_d, ↓WkK_d, ↓RwK_ok, ↓X_fzM, ↓X_prn, ↓X_prc, ↓X_disp, ↓X_vD, ↓X_vO, ↓X_vM, ↓Y_parK, asB_b, asI_i, eqD_ii, neD_ii, ltD_ii, leD_ii, gtD_ii, geD_ii, addD_ii, subD_ii, lenD_l, lenD_t, List.length_map, List.length_range, ↓lt_l0, ↓lt_ls, ↓le_l0, ↓le_ls, ↓ln_p, ↓eq_l0, ↓eq_ls, ↓sm_l, if_true, if_false, ha.len, rng1_ok (n := xs.length) (by omega), list_range, and_self]
  · have hx := List.mem_range.mp hx
    simp only [↓Ep_K, ↓Wp_K, ↓IteK_t, ↓IteK_f, ↓OpK_some, ↓AndK_t, ↓RsK_ok, ↓nxtK_nx, ↓nxtK_rt, ↓nxtK_bk, ↓nxtK_ct, ↓nxtK_ex, ↓VK_dat, ↓VK_own, ↓VK_dic, ↓X_V, ↓X_ret, ↓X_opt, ↓X_bind, ↓X_C, ↓X_nil, ↓X_no, ↓X_some, ↓X_yes, ↓X_cons, ↓X_bin, ↓X_un, ↓X_ix, ↓X_B, ↓X_BF, ↓X_binF, ↓X_tup, ↓X_lst, ↓X_lstF, ↓X_bOf, ↓X_and, ↓X_or, ↓X_not, ↓BoK_b, ↓X_eAnd, ↓X_eOr, ↓X_eNot, ↓X_eIf, ↓X_sl, ↓X_fz, ↓X_chain, ↓X_call, ↓X_meth, ↓X_rng1, ↓X_rng2, ↓X_rng3, ↓X_iA, ↓X_lr1, ↓X_lr2, ↓X_kget, ↓X_make, ↓X_get2, ↓X_get1, ↓X_eDic, ↓LsK_l, ↓X_idx, ↓X_VO, ↓X_BO, ↓X_BFO, ↓X_binO, ↓X_ixO, ↓MuK_own, ↓OwK_own, ↓X_mut, ↓Y_nx, ↓Y_pass, ↓Y_brk, ↓Y_cnt, ↓Y_retN, ↓Y_seq, ↓Y_asg, ↓Y_set, ↓Y_own, ↓Y_dat, ↓Y_dic, ↓Y_ret, ↓Y_expr, ↓Y_if, ↓Y_par, ↓Y_par3, ↓AuK_dat, ↓Y_aug, ↓Y_for, ↓Y_while, ↓Y_setIx, slotAt_eq, slotO_own, slotO_dic, g_N, g_two, g_three, g_T, g_L, g_nil, g_cons, Option.bind_some, Option.map_some, List.getElem?_cons_zero, List.getElem?_cons_succ, List.set_cons_zero, List.set_cons_succ, ↓X_W, ↓DrK_d, ↓WkK_d, ↓RwK_ok, ↓X_fzM, ↓X_prn, ↓X_prc, ↓X_disp, ↓X_vD, ↓X_vO, ↓X_vM, ↓Y_parK, asB_b, asI_i, eqD_ii, neD_ii, ltD_ii, leD_ii, gtD_ii, geD_ii, addD_ii, subD_ii, lenD_l, lenD_t, List.length_map, List.length_range, ↓lt_l0, ↓lt_ls, ↓le_l0, ↓le_ls, ↓ln_p, ↓eq_l0, ↓eq_ls, ↓sm_l, if_true, if_false, nI_eq, ha.ix hx, dec0, and_self]
  · simp only [↓Ep_K, ↓Wp_K, ↓IteK_t, ↓IteK_f, ↓OpK_some, ↓AndK_t, ↓RsK_ok, ↓nxtK_nx, ↓nxtK_rt, ↓nxtK_bk, ↓nxtK_ct, ↓nxtK_ex, ↓VK_dat, ↓VK_own, ↓VK_dic, ↓X_V, ↓X_ret, ↓X_opt, ↓X_bind, ↓X_C, ↓X_nil, ↓X_no, ↓X_some, ↓X_yes, ↓X_cons, ↓X_bin, ↓X_un, ↓X_ix, ↓X_B, ↓X_BF, ↓X_binF, ↓X_tup, ↓X_lst, ↓X_lstF, ↓X_bOf, ↓X_and, ↓X_or, ↓X_not, ↓BoK_b, ↓X_eAnd, ↓X_eOr, ↓X_eNot, ↓X_eIf, ↓X_sl, ↓X_fz, ↓X_chain, ↓X_call, ↓X_meth, ↓X_rng1, ↓X_rng2, ↓X_rng3, ↓X_iA, ↓X_lr1, ↓X_lr2, ↓X_kget, ↓X_make, ↓X_get2, ↓X_get1, ↓X_eDic, ↓LsK_l, ↓X_idx, ↓X_VO, ↓X_BO, ↓X_BFO, ↓X_binO, ↓X_ixO, ↓MuK_own, ↓OwK_own, ↓X_mut, ↓Y_nx, ↓Y_pass, ↓Y_brk, ↓Y_cnt, ↓Y_retN, ↓Y_seq, ↓Y_asg, ↓Y_set, ↓Y_own, ↓Y_dat, ↓Y_dic, ↓Y_ret, ↓Y_expr, ↓Y_if, ↓Y_par, ↓Y_par3, ↓AuK_dat, ↓Y_aug, ↓Y_for, ↓Y_while, ↓Y_setIx, slotAt_eq, slotO_own, slotO_dic, g_N, g_two, g_three, g_T, g_L, g_nil, g_cons, Option.bind_some, Option.map_some, List.getElem?_cons_zero, List.getElem?_cons_succ, List.set_cons_zero, List.set_cons_succ, ↓X_W, ↓DrK_d, ↓WkK_d, ↓RwK_ok, ↓X_fzM, ↓X_prn, ↓X_prc, ↓X_disp, ↓X_vD, ↓X_vO, ↓X_vM, ↓Y_parK, asB_b, asI_i, eqD_ii, neD_ii, ltD_ii, leD_ii, gtD_ii, geD_ii, addD_ii, subD_ii, lenD_l, lenD_t, List.length_map, List.length_range, ↓lt_l0, ↓lt_ls, ↓le_l0, ↓le_ls, ↓ln_p, ↓eq_l0, ↓eq_ls, ↓sm_l, if_true, if_false, and_self]
  · simp only [↓Ep_K, ↓Wp_K, ↓IteK_t, ↓IteK_f, ↓OpK_some, ↓AndK_t, ↓RsK_ok, ↓nxtK_nx, ↓nxtK_rt, ↓nxtK_bk, ↓nxtK_ct, ↓nxtK_ex, ↓VK_dat, ↓VK_own, ↓VK_dic, ↓X_V, ↓X_ret, ↓X_opt, ↓X_bind, ↓X_C, ↓X_nil, ↓X_no, ↓X_some, ↓X_yes, ↓X_cons, ↓X_bin, ↓X_un, ↓X_ix, ↓X_B, ↓X_BF, ↓X_binF, ↓X_tup, ↓X_lst, ↓X_lstF, ↓X_bOf, ↓X_and, ↓X_or, ↓X_not, ↓BoK_b, ↓X_eAnd, ↓X_eOr, ↓X_eNot, ↓X_eIf, ↓X_sl, ↓X_fz, ↓X_chain, ↓X_call, ↓X_meth, ↓X_rng1, ↓X_rng2, ↓X_rng3, ↓X_iA, ↓X_lr1, ↓X_lr2, ↓X_kget, ↓X_make, ↓X_get2, ↓X_get1, ↓X_eDic, ↓LsK_l, ↓X_idx, ↓X_VO, ↓X_BO, ↓X_BFO, ↓X_binO, ↓X_ixO, ↓MuK_own, ↓OwK_own, ↓X_mut, ↓Y_nx, ↓Y_pass, ↓Y_brk, ↓Y_cnt, ↓Y_retN, ↓Y_seq, ↓Y_asg, ↓Y_set, ↓Y_own, ↓Y_dat, ↓Y_dic, ↓Y_ret, ↓Y_expr, ↓Y_if, ↓Y_par, ↓Y_par3, ↓AuK_dat, ↓Y_aug, ↓Y_for, ↓Y_while, ↓Y_setIx, slotAt_eq, slotO_own, slotO_dic, g_N, g_two, g_three, g_T, g_L, g_nil, g_cons, Option.bind_some, Option.map_some, List.getElem?_cons_zero, List.getElem?_cons_succ, List.set_cons_zero, List.set_cons_succ, ↓X_W, ↓DrK_d, ↓WkK_d, ↓RwK_ok, ↓X_fzM, ↓X_prn, ↓X_prc, ↓X_disp, ↓X_vD, ↓X_vO, ↓X_vM, ↓Y_parK, asB_b, asI_i, eqD_ii, neD_ii, ltD_ii, leD_ii, gtD_ii, geD_ii, addD_ii, subD_ii, lenD_l, lenD_t, List.length_map, List.length_range, ↓lt_l0, ↓lt_ls, ↓le_l0, ↓le_ls, ↓ln_p, ↓eq_l0, ↓eq_ls, ↓sm_l, if_true, if_false, tupleD_l]
    rfl
end FW

namespace FW
open PySem PySem.Spec L2
open PyProof.Rows hiding St
/-! ### the law's own helpers -/
theorem law_digits_eq {n b : Int} {m : Nat} (hb : 0 < b) (hb2 : b < 2 ^ 200) (hm : m < 1000) : f__law_digits [.int n, .int b, .int m] = .ok (.list ((digs n b m).map PyData.int)) := by
  refine RsK.eq (R_run2 ?_)
  show Wp b__law_digits [.dat (.int n), .dat (.int b), .dat (.int m), .un, .un] _
  unfold b__law_digits
  simp only [↓Ep_K, ↓Wp_K, ↓IteK_t, ↓IteK_f, ↓OpK_some, ↓AndK_t, ↓RsK_ok, ↓nxtK_nx, ↓nxtK_rt, ↓nxtK_bk, ↓nxtK_ct, ↓nxtK_ex, ↓VK_dat, ↓VK_own, ↓VK_dic, ↓X_V, ↓X_ret, ↓X_opt, ↓X_bind, ↓X_C, ↓X_nil, ↓X_no, ↓X_some, ↓X_yes, ↓X_cons, ↓X_bin, ↓X_un, ↓X_ix, ↓X_B, ↓X_BF, ↓X_binF, ↓X_tup, ↓X_lst, ↓X_lstF, ↓X_bOf, ↓X_and, ↓X_or, ↓X_not, ↓BoK_b, ↓X_eAnd, ↓X_eOr, ↓X_eNot, ↓X_eIf, ↓X_sl, ↓X_fz, ↓X_chain, ↓X_call, ↓X_meth, ↓X_rng1, ↓X_rng2, ↓X_rng3, ↓X_iA, ↓X_lr1, ↓X_lr2, ↓X_kget, ↓X_make, ↓X_get2, ↓X_get1, ↓X_eDic, ↓LsK_l, ↓X_idx, ↓X_VO, ↓X_BO, ↓X_BFO, ↓X_binO, ↓X_ixO, ↓MuK_own, ↓OwK_own, ↓X_mut, ↓Y_nx, ↓Y_pass, ↓Y_brk, ↓Y_cnt, ↓Y_retN, ↓Y_seq, ↓Y_asg, ↓Y_set, ↓Y_own, ↓Y_dat, ↓Y_dic, ↓Y_ret, ↓Y_expr, ↓Y_if, ↓Y_par, ↓Y_par3, ↓AuK_dat, ↓Y_aug, ↓Y_for, ↓Y_while, ↓Y_setIx, slotAt_eq, slotO_own, slotO_dic, g_N, g_two, g_three, g_T, g_L, g_nil, g_cons, Option.bind_some, Option.map_some, List.getElem?_cons_zero, List.getElem?_cons_succ, List.set_cons_zero, List.set_cons_succ, ↓X_W, ↓DrK_d, ↓WkK_d, ↓RwK_ok, ↓X_fzM, ↓X_prn, ↓X_prc, ↓X_disp, ↓X_vD, ↓X_vO, ↓X_vM, ↓Y_parK, asB_b, asI_i, eqD_ii, neD_ii, ltD_ii, leD_ii, gtD_ii, geD_ii, addD_ii, subD_ii, lenD_l, lenD_t, List.length_map, List.length_range, ↓lt_l0, ↓lt_ls, ↓le_l0, ↓le_ls, ↓ln_p, ↓eq_l0, ↓eq_ls, ↓sm_l, if_true, if_false, rng1_ok (n := m) (by omega)]
  refine W_forI (st := fun (s : (Int × List Int) × Slot) => [.dat (.int s.1.1), .dat (.int b), .dat (.int m), .own (s.1.2.map PyData.int), s.2]) (step := fun s d => ((s.1.1 / b, s.1.2 ++ [s.1.1 % b]), .dat d)) (I := fun i s => s.1.2.length = i) ((n, []), .un) rfl (fun i d hd s hI => ?_) (fun hI => ?_)
  · have hi : i < m := by
      have := (List.getElem?_eq_some_iff.mp hd).1
      simpa using this
    refine ⟨by simp [hI], _, rfl, ?_⟩
    simp only [↓Ep_K, ↓Wp_K, ↓IteK_t, ↓IteK_f, ↓OpK_some, ↓AndK_t, ↓RsK_ok, ↓nxtK_nx, ↓nxtK_rt, ↓nxtK_bk, ↓nxtK_ct, ↓nxtK_ex, ↓VK_dat, ↓VK_own, ↓VK_dic, ↓X_V, ↓X_ret, ↓X_opt, ↓X_bind, ↓X_C, ↓X_nil, ↓X_no, ↓X_some, ↓X_yes, ↓X_cons, ↓X_bin, ↓X_un, ↓X_ix, ↓X_B, ↓X_BF, ↓X_binF, ↓X_tup, ↓X_lst, ↓X_lstF, ↓X_bOf, ↓X_and, ↓X_or, ↓X_not, ↓BoK_b, ↓X_eAnd, ↓X_eOr, ↓X_eNot, ↓X_eIf, ↓X_sl, ↓X_fz, ↓X_chain, ↓X_call, ↓X_meth, ↓X_rng1, ↓X_rng2, ↓X_rng3, ↓X_iA, ↓X_lr1, ↓X_lr2, ↓X_kget, ↓X_make, ↓X_get2, ↓X_get1, ↓X_eDic, ↓LsK_l, ↓X_idx, ↓X_VO, ↓X_BO, ↓X_BFO, ↓X_binO, ↓X_ixO, ↓MuK_own, ↓OwK_own, ↓X_mut, ↓Y_nx, ↓Y_pass, ↓Y_brk, ↓Y_cnt, ↓Y_retN, ↓Y_seq, ↓Y_asg, ↓Y_set, ↓Y_own, ↓Y_dat, ↓Y_dic, ↓Y_ret, ↓Y_expr, ↓Y_if, ↓Y_par, ↓Y_par3, ↓AuK_dat, ↓Y_aug, ↓Y_for, ↓Y_while, ↓Y_setIx, slotAt_eq, slotO_own, slotO_dic, g_N, g_two, g_three, g_T, g_L, g_nil, g_cons, Option.bind_some, Option.map_some, List.getElem?_cons_zero, List.getElem?_cons_succ, List.set_cons_zero, List.set_cons_succ, ↓X_W, ↓DrK_d, ↓WkK_d, ↓RwK_ok, ↓X_fzM, ↓X_prn, ↓X_prc, ↓X_disp, ↓X_vD, ↓X_vO, ↓X_vM, ↓Y_parK, asB_b, asI_i, eqD_ii, neD_ii, ltD_ii, leD_ii, gtD_ii, geD_ii, addD_ii, subD_ii, lenD_l, lenD_t, List.length_map, List.length_range, ↓lt_l0, ↓lt_ls, ↓le_l0, ↓le_ls, ↓ln_p, ↓eq_l0, ↓eq_ls, ↓sm_l, if_true, if_false, intD_i, modD_ii hb, fdivD_ii hb hb2, app_map PyData.int (xs := s.1.2) (by omega)]
    simp
  · obtain ⟨t', e⟩ := digs_fold b ((List.range m).map fun i => PyData.int (i : Nat)) n [] .un
    rw [e]
    simp only [↓Ep_K, ↓Wp_K, ↓IteK_t, ↓IteK_f, ↓OpK_some, ↓AndK_t, ↓RsK_ok, ↓nxtK_nx, ↓nxtK_rt, ↓nxtK_bk, ↓nxtK_ct, ↓nxtK_ex, ↓VK_dat, ↓VK_own, ↓VK_dic, ↓X_V, ↓X_ret, ↓X_opt, ↓X_bind, ↓X_C, ↓X_nil, ↓X_no, ↓X_some, ↓X_yes, ↓X_cons, ↓X_bin, ↓X_un, ↓X_ix, ↓X_B, ↓X_BF, ↓X_binF, ↓X_tup, ↓X_lst, ↓X_lstF, ↓X_bOf, ↓X_and, ↓X_or, ↓X_not, ↓BoK_b, ↓X_eAnd, ↓X_eOr, ↓X_eNot, ↓X_eIf, ↓X_sl, ↓X_fz, ↓X_chain, ↓X_call, ↓X_meth, ↓X_rng1, ↓X_rng2, ↓X_rng3, ↓X_iA, ↓X_lr1, ↓X_lr2, ↓X_kget, ↓X_make, ↓X_get2, ↓X_get1, ↓X_eDic, ↓LsK_l, ↓X_idx, ↓X_VO, ↓X_BO, ↓X_BFO, ↓X_binO, ↓X_ixO, ↓MuK_own, ↓OwK_own, ↓X_mut, ↓Y_nx, ↓Y_pass, ↓Y_brk, ↓Y_cnt, ↓Y_retN, ↓Y_seq, ↓Y_asg, ↓Y_set, ↓Y_own, ↓Y_dat, ↓Y_dic, ↓Y_ret, ↓Y_expr, ↓Y_if, ↓Y_par, ↓Y_par3, ↓AuK_dat, ↓Y_aug, ↓Y_for, ↓Y_while, ↓Y_setIx, slotAt_eq, slotO_own, slotO_dic, g_N, g_two, g_three, g_T, g_L, g_nil, g_cons, Option.bind_some, Option.map_some, List.getElem?_cons_zero, List.getElem?_cons_succ, List.set_cons_zero, List.set_cons_succ, ↓X_W, ↓DrK_d, ↓WkK_d, ↓RwK_ok, ↓X_fzM, ↓X_prn, ↓X_prc, ↓X_disp, ↓X_vD, ↓X_vO, ↓X_vM, ↓Y_parK, asB_b, asI_i, eqD_ii, neD_ii, ltD_ii, leD_ii, gtD_ii, geD_ii, addD_ii, subD_ii, lenD_l, lenD_t, List.length_map, List.length_range, ↓lt_l0, ↓lt_ls, ↓le_l0, ↓le_ls, ↓ln_p, ↓eq_l0, ↓eq_ls, ↓sm_l, if_true, if_false, List.length_map, List.length_range, List.nil_append]
def lawLead : Nat → Nat × Nat × List Nat
  | 4 => (2, 2, [1, 1])
  | 8 => (2, 3, [1, 1, 0])
  | 9 => (3, 2, [2, 0])
  | 16 => (2, 4, [1, 1, 0, 0])
  | n => (n, 1, [0])
theorem lawLead_facts : ∀ n ∈ sizesN, 2 ≤ (lawLead n).1 ∧ (lawLead n).1 < 100 ∧ 1 ≤ (lawLead n).2.1 ∧ (lawLead n).2.1 ≤ 4 ∧ (lawLead n).2.2.length = (lawLead n).2.1 ∧ ∀ z ∈ (lawLead n).2.2, z < 10 := by decide
def pows (b : Int) : List Int := [1, b, b * b, b * b * b]
def lval (b : Int) (m : Nat) (r : List Int) : Int := ((List.range m).map fun k => (r.getD k 0 % b) * (pows b).getD k 0).sum
def lsum (b : Int) (m : Nat) (x y : Int) : Int := ((List.range m).map fun k => (((digs x b m).getD k 0 + (digs y b m).getD k 0) % b) * (pows b).getD k 0).sum
def lconv (o p : List Int) (m : Nat) (r : List Int) : List Int := (List.range m).foldl (fun r i => (List.range m).foldl (fun r j => r.set (i + j) (r.getD (i + j) 0 + o.getD i 0 * p.getD j 0)) r) r
def lred (L : List Nat) (m : Nat) (r : List Int) : List Int := ((List.range (m - 1)).map fun k => m + k).reverse.foldl (fun r k => (List.range m).foldl (fun r j => r.set (k - m + j) (r.getD (k - m + j) 0 + r.getD k 0 * (L.getD j 0 : Nat))) r) r
def lrow (b : Int) (L : List Nat) (m : Nat) (x y : Int) : List Int := lred L m (lconv (digs x b m) (digs y b m) m (List.replicate (2 * m - 1) 0))
def lprod (b : Int) (L : List Nat) (m : Nat) (x y : Int) : Int := lval b m (lrow b L m x y)
theorem law_tab_facts : ∀ n ∈ sizesN, ∀ x < n, ∀ y < n, lsum (lawLead n).1 (lawLead n).2.1 x y = (fadd n x y : Nat) ∧ lprod (lawLead n).1 (lawLead n).2.2 (lawLead n).2.1 x y = (fmul n x y : Nat) := by decide +kernel
end FW

namespace FW
open PySem PySem.Spec L2
open PyProof.Rows hiding St
def lawF (n : Nat) : D := .tuple [tabN n (fadd n), tabN n (fmul n)]
theorem lawF_0 {n : Nat} : ixD (lawF n) (.int 0) = some (tabN n (fadd n)) := rfl
theorem lawF_1 {n : Nat} : ixD (lawF n) (.int 1) = some (tabN n (fmul n)) := rfl
theorem fold_len {α : Type} (f : List Int → α → List Int) (hf : ∀ r x, (f r x).length = r.length) : ∀ (xs : List α) (r : List Int), (xs.foldl f r).length = r.length
  | [], r => rfl
  | x :: xs, r => by rw [List.foldl_cons, fold_len f hf xs, hf]
theorem ix_pows {b : Int} {k : Nat} (hk : k < 4) : ixD (.list [.int 1, .int b, .int (b * b), .int (b * b * b)]) (.int k) = some (.int ((pows b).getD k 0)) := ix_i (row := pows b) hk
theorem rep0 {m : Nat} (h : m < 1000) : repF (.list [.int 0]) (.int m) = some ((List.replicate m (0 : Int)).map PyData.int) := by
  have : (1000 : Nat) < sizeLine := by decide
  have e : repF (.list [.int 0]) (.int m) = (if -(2 ^ 63) ≤ (m : Int) ∧ (m : Int) < 2 ^ 63 ∧ [PyData.int 0].length * (m : Int).toNat ≤ sizeLine then some (List.replicate (m : Int).toNat [PyData.int 0]).flatten else none) := rfl
  rw [e, if_pos ⟨by omega, by omega, by simp; omega⟩, Int.toNat_natCast, List.map_replicate, rep_flat]
def getLead (n : Nat) : Option D := match n with
  | 4 => some (.tuple [.int 2, .int 2, .list [.int 1, .int 1]])
  | 8 => some (.tuple [.int 2, .int 3, .list [.int 1, .int 1, .int 0]])
  | 9 => some (.tuple [.int 3, .int 2, .list [.int 2, .int 0]])
  | 16 => some (.tuple [.int 2, .int 4, .list [.int 1, .int 1, .int 0, .int 0]])
  | _ => none
theorem getLead_eq {n : Nat} (hn : n ∈ sizesN) : (getLead n).getD (.tuple [.int n, .int 1, .list [.int 0]]) = .tuple [.int (lawLead n).1, .int (lawLead n).2.1, .list ((lawLead n).2.2.map nI)] := by
  have hn2 : n = 2 ∨ n = 3 ∨ n = 4 ∨ n = 5 ∨ n = 7 ∨ n = 8 ∨ n = 9 ∨ n = 11 ∨ n = 13 ∨ n = 16 := by simpa [sizesN] using hn
  rcases hn2 with rfl | rfl | rfl | rfl | rfl | rfl | rfl | rfl | rfl | rfl <;> rfl
theorem law_field_eq {n : Nat} (hn : n ∈ sizesN) : f__law_field [.int n] = .ok (lawF n) := by
  refine RsK.eq (R_run2 ?_)
  show Wp b__law_field [.dat (.int n), .un, .un, .un, .un, .un, .un, .un, .un, .un, .un, .un, .un, .un, .un, .un] _
  unfold b__law_field
  simp only [↓Ep_K, ↓Wp_K, ↓IteK_t, ↓IteK_f, ↓OpK_some, ↓AndK_t, ↓RsK_ok, ↓nxtK_nx, ↓nxtK_rt, ↓nxtK_bk, ↓nxtK_ct, ↓nxtK_ex, ↓VK_dat, ↓VK_own, ↓VK_dic, ↓X_V, ↓X_ret, ↓X_opt, ↓X_bind, ↓X_C, ↓X_nil, ↓X_no, ↓X_some, ↓X_yes, ↓X_cons, ↓X_bin, ↓X_un, ↓X_ix, ↓X_B, ↓X_BF, ↓X_binF, ↓X_tup, ↓X_lst, ↓X_lstF, ↓X_bOf, ↓X_and, ↓X_or, ↓X_not, ↓BoK_b, ↓X_eAnd, ↓X_eOr, ↓X_eNot, ↓X_eIf, ↓X_sl, ↓X_fz, ↓X_chain, ↓X_call, ↓X_meth, ↓X_rng1, ↓X_rng2, ↓X_rng3, ↓X_iA, ↓X_lr1, ↓X_lr2, ↓X_kget, ↓X_make, ↓X_get2, ↓X_get1, ↓X_eDic, ↓LsK_l, ↓X_idx, ↓X_VO, ↓X_BO, ↓X_BFO, ↓X_binO, ↓X_ixO, ↓MuK_own, ↓OwK_own, ↓X_mut, ↓Y_nx, ↓Y_pass, ↓Y_brk, ↓Y_cnt, ↓Y_retN, ↓Y_seq, ↓Y_asg, ↓Y_set, ↓Y_own, ↓Y_dat, ↓Y_dic, ↓Y_ret, ↓Y_expr, ↓Y_if, ↓Y_par, ↓Y_par3, ↓AuK_dat, ↓Y_aug, ↓Y_for, ↓Y_while, ↓Y_setIx, slotAt_eq, slotO_own, slotO_dic, g_N, g_two, g_three, g_T, g_L, g_nil, g_cons, Option.bind_some, Option.map_some, List.getElem?_cons_zero, List.getElem?_cons_succ, List.set_cons_zero, List.set_cons_succ, ↓X_W, ↓DrK_d, ↓WkK_d, ↓RwK_ok, ↓X_fzM, ↓X_prn, ↓X_prc, ↓X_disp, ↓X_vD, ↓X_vO, ↓X_vM, ↓Y_parK, asB_b, asI_i, eqD_ii, neD_ii, ltD_ii, leD_ii, gtD_ii, geD_ii, addD_ii, subD_ii, lenD_l, lenD_t, List.length_map, List.length_range, ↓lt_l0, ↓lt_ls, ↓le_l0, ↓le_ls, ↓ln_p, ↓eq_l0, ↓eq_ls, ↓sm_l, if_true, if_false]
  refine OpK.of rfl ?_
  refine AndK.of rfl ?_
  simp only [↓Ep_K, ↓Wp_K, ↓IteK_t, ↓IteK_f, ↓OpK_some, ↓AndK_t, ↓RsK_ok, ↓nxtK_nx, ↓nxtK_rt, ↓nxtK_bk, ↓nxtK_ct, ↓nxtK_ex, ↓VK_dat, ↓VK_own, ↓VK_dic, ↓X_V, ↓X_ret, ↓X_opt, ↓X_bind, ↓X_C, ↓X_nil, ↓X_no, ↓X_some, ↓X_yes, ↓X_cons, ↓X_bin, ↓X_un, ↓X_ix, ↓X_B, ↓X_BF, ↓X_binF, ↓X_tup, ↓X_lst, ↓X_lstF, ↓X_bOf, ↓X_and, ↓X_or, ↓X_not, ↓BoK_b, ↓X_eAnd, ↓X_eOr, ↓X_eNot, ↓X_eIf, ↓X_sl, ↓X_fz, ↓X_chain, ↓X_call, ↓X_meth, ↓X_rng1, ↓X_rng2, ↓X_rng3, ↓X_iA, ↓X_lr1, ↓X_lr2, ↓X_kget, ↓X_make, ↓X_get2, ↓X_get1, ↓X_eDic, ↓LsK_l, ↓X_idx, ↓X_VO, ↓X_BO, ↓X_BFO, ↓X_binO, ↓X_ixO, ↓MuK_own, ↓OwK_own, ↓X_mut, ↓Y_nx, ↓Y_pass, ↓Y_brk, ↓Y_cnt, ↓Y_retN, ↓Y_seq, ↓Y_asg, ↓Y_set, ↓Y_own, ↓Y_dat, ↓Y_dic, ↓Y_ret, ↓Y_expr, ↓Y_if, ↓Y_par, ↓Y_par3, ↓AuK_dat, ↓Y_aug, ↓Y_for, ↓Y_while, ↓Y_setIx, slotAt_eq, slotO_own, slotO_dic, g_N, g_two, g_three, g_T, g_L, g_nil, g_cons, Option.bind_some, Option.map_some, List.getElem?_cons_zero, List.getElem?_cons_succ, List.set_cons_zero, List.set_cons_succ, ↓X_W, ↓DrK_d, ↓WkK_d, ↓RwK_ok, ↓X_fzM, ↓X_prn, ↓X_prc, ↓X_disp, ↓X_vD, ↓X_vO, ↓X_vM, ↓Y_parK, asB_b, asI_i, eqD_ii, neD_ii, ltD_ii, leD_ii, gtD_ii, geD_ii, addD_ii, subD_ii, lenD_l, lenD_t, List.length_map, List.length_range, ↓lt_l0, ↓lt_ls, ↓le_l0, ↓le_ls, ↓ln_p, ↓eq_l0, ↓eq_ls, ↓sm_l, if_true, if_false]
  have hn2 : n = 2 ∨ n = 3 ∨ n = 4 ∨ n = 5 ∨ n = 7 ∨ n = 8 ∨ n = 9 ∨ n = 11 ∨ n = 13 ∨ n = 16 := by simpa [sizesN] using hn
  refine OpK.of (a := getLead n) (by rcases hn2 with rfl | rfl | rfl | rfl | rfl | rfl | rfl | rfl | rfl | rfl <;> rfl) ?_
  rw [getLead_eq hn]
  obtain ⟨f1, f2, f3, f4, f5, f6⟩ := lawLead_facts n hn
  have hT := law_tab_facts n hn
  generalize (lawLead n).1 = b at f1 f2 hT ⊢
  generalize (lawLead n).2.1 = m at f3 f4 f5 hT ⊢
  generalize (lawLead n).2.2 = L at f5 f6 hT ⊢
  have hsz := size_facts n hn
  simp only [↓Ep_K, ↓Wp_K, ↓IteK_t, ↓IteK_f, ↓OpK_some, ↓AndK_t, ↓RsK_ok, ↓nxtK_nx, ↓nxtK_rt, ↓nxtK_bk, ↓nxtK_ct, ↓nxtK_ex, ↓VK_dat, ↓VK_own, ↓VK_dic, ↓X_V, ↓X_ret, ↓X_opt, ↓X_bind, ↓X_C, ↓X_nil, ↓X_no, ↓X_some, ↓X_yes, ↓X_cons, ↓X_bin, ↓X_un, ↓X_ix, ↓X_B, ↓X_BF, ↓X_binF, ↓X_tup, ↓X_lst, ↓X_lstF, ↓X_bOf, ↓X_and, ↓X_or, ↓X_not, ↓BoK_b, ↓X_eAnd, ↓X_eOr, ↓X_eNot, ↓X_eIf, ↓X_sl, ↓X_fz, ↓X_chain, ↓X_call, ↓X_meth, ↓X_rng1, ↓X_rng2, ↓X_rng3, ↓X_iA, ↓X_lr1, ↓X_lr2, ↓X_kget, ↓X_make, ↓X_get2, ↓X_get1, ↓X_eDic, ↓LsK_l, ↓X_idx, ↓X_VO, ↓X_BO, ↓X_BFO, ↓X_binO, ↓X_ixO, ↓MuK_own, ↓OwK_own, ↓X_mut, ↓Y_nx, ↓Y_pass, ↓Y_brk, ↓Y_cnt, ↓Y_retN, ↓Y_seq, ↓Y_asg, ↓Y_set, ↓Y_own, ↓Y_dat, ↓Y_dic, ↓Y_ret, ↓Y_expr, ↓Y_if, ↓Y_par, ↓Y_par3, ↓AuK_dat, ↓Y_aug, ↓Y_for, ↓Y_while, ↓Y_setIx, slotAt_eq, slotO_own, slotO_dic, g_N, g_two, g_three, g_T, g_L, g_nil, g_cons, Option.bind_some, Option.map_some, List.getElem?_cons_zero, List.getElem?_cons_succ, List.set_cons_zero, List.set_cons_succ, ↓X_W, ↓DrK_d, ↓WkK_d, ↓RwK_ok, ↓X_fzM, ↓X_prn, ↓X_prc, ↓X_disp, ↓X_vD, ↓X_vO, ↓X_vM, ↓Y_parK, asB_b, asI_i, eqD_ii, neD_ii, ltD_ii, leD_ii, gtD_ii, geD_ii, addD_ii, subD_ii, lenD_l, lenD_t, List.length_map, List.length_range, ↓lt_l0, ↓lt_ls, ↓le_l0, ↓le_ls, ↓ln_p, ↓eq_l0, ↓eq_ls, ↓sm_l, if_true, if_false, rng1_ok (n := n) (by omega), list_range]
  have hb1 : -(2 ^ 64) < (b : Int) ∧ (b : Int) < 2 ^ 64 := by omega
  have hb0 : (0 : Int) < (b : Int) := by omega
  have hc2 : (2 * (m : Int) - 1) = ((2 * m - 1 : Nat) : Int) := by omega
  have hL : ∀ j, j < m → L.getD j 0 < 10 := fun j hj => f6 _ (by rw [List.getD_eq_getElem?_getD, List.getElem?_eq_getElem (by omega)]; exact List.getElem_mem _)
  refine W_forN n (st := fun i (c : Option D × Option D × Option D × Option D × Option D × Option D × Slot × Option D × Option D × Option D) => [.dat (.int n), .dat (.int b), .dat (.int m), .dat (.list (L.map nI)), .own ((List.range i).map fun a => rowI n (fadd n a)), .own ((List.range i).map fun a => rowI n (fmul n a)), gv c.1, gv c.2.1, gv c.2.2.1, gv c.2.2.2.1, gv c.2.2.2.2.1, gv c.2.2.2.2.2.1, c.2.2.2.2.2.2.1, gv c.2.2.2.2.2.2.2.1, gv c.2.2.2.2.2.2.2.2.1, gv c.2.2.2.2.2.2.2.2.2]) (none, none, none, none, none, none, .un, none, none, none) (fun x hx c => ?_) (fun c => ?_)
  · refine ⟨_, rfl, ?_⟩
    simp only [↓Ep_K, ↓Wp_K, ↓IteK_t, ↓IteK_f, ↓OpK_some, ↓AndK_t, ↓RsK_ok, ↓nxtK_nx, ↓nxtK_rt, ↓nxtK_bk, ↓nxtK_ct, ↓nxtK_ex, ↓VK_dat, ↓VK_own, ↓VK_dic, ↓X_V, ↓X_ret, ↓X_opt, ↓X_bind, ↓X_C, ↓X_nil, ↓X_no, ↓X_some, ↓X_yes, ↓X_cons, ↓X_bin, ↓X_un, ↓X_ix, ↓X_B, ↓X_BF, ↓X_binF, ↓X_tup, ↓X_lst, ↓X_lstF, ↓X_bOf, ↓X_and, ↓X_or, ↓X_not, ↓BoK_b, ↓X_eAnd, ↓X_eOr, ↓X_eNot, ↓X_eIf, ↓X_sl, ↓X_fz, ↓X_chain, ↓X_call, ↓X_meth, ↓X_rng1, ↓X_rng2, ↓X_rng3, ↓X_iA, ↓X_lr1, ↓X_lr2, ↓X_kget, ↓X_make, ↓X_get2, ↓X_get1, ↓X_eDic, ↓LsK_l, ↓X_idx, ↓X_VO, ↓X_BO, ↓X_BFO, ↓X_binO, ↓X_ixO, ↓MuK_own, ↓OwK_own, ↓X_mut, ↓Y_nx, ↓Y_pass, ↓Y_brk, ↓Y_cnt, ↓Y_retN, ↓Y_seq, ↓Y_asg, ↓Y_set, ↓Y_own, ↓Y_dat, ↓Y_dic, ↓Y_ret, ↓Y_expr, ↓Y_if, ↓Y_par, ↓Y_par3, ↓AuK_dat, ↓Y_aug, ↓Y_for, ↓Y_while, ↓Y_setIx, slotAt_eq, slotO_own, slotO_dic, g_N, g_two, g_three, g_T, g_L, g_nil, g_cons, Option.bind_some, Option.map_some, List.getElem?_cons_zero, List.getElem?_cons_succ, List.set_cons_zero, List.set_cons_succ, ↓X_W, ↓DrK_d, ↓WkK_d, ↓RwK_ok, ↓X_fzM, ↓X_prn, ↓X_prc, ↓X_disp, ↓X_vD, ↓X_vO, ↓X_vM, ↓Y_parK, asB_b, asI_i, eqD_ii, neD_ii, ltD_ii, leD_ii, gtD_ii, geD_ii, addD_ii, subD_ii, lenD_l, lenD_t, List.length_map, List.length_range, ↓lt_l0, ↓lt_ls, ↓le_l0, ↓le_ls, ↓ln_p, ↓eq_l0, ↓eq_ls, ↓sm_l, if_true, if_false, nI_eq, rng1_ok (n := n) (by omega), list_range]
    refine W_forN n (st := fun i (c' : Option D × Option D × Option D × Slot × Option D × Option D × Option D) => [.dat (.int n), .dat (.int b), .dat (.int m), .dat (.list (L.map nI)), .own ((List.range x).map fun a => rowI n (fadd n a)), .own ((List.range x).map fun a => rowI n (fmul n a)), .dat (.int x), .own ((List.range i).map fun y : Nat => .int (lsum b m x y)), .own ((List.range i).map fun y : Nat => .int (lprod b L m x y)), gv c'.1, gv c'.2.1, gv c'.2.2.1, c'.2.2.2.1, gv c'.2.2.2.2.1, gv c'.2.2.2.2.2.1, gv c'.2.2.2.2.2.2]) (c.2.2.2.1, c.2.2.2.2.1, c.2.2.2.2.2.1, c.2.2.2.2.2.2.1, c.2.2.2.2.2.2.2.1, c.2.2.2.2.2.2.2.2.1, c.2.2.2.2.2.2.2.2.2) (fun y hy c' => ?_) (fun c' => ?_)
    · refine ⟨_, rfl, ?_⟩
      have d1 := law_digits_eq (n := (x : Int)) (b := b) (m := m) hb0 (by omega) (by omega)
      have d2 := law_digits_eq (n := (y : Int)) (b := b) (m := m) hb0 (by omega) (by omega)
      simp only [↓Ep_K, ↓Wp_K, ↓IteK_t, ↓IteK_f, ↓OpK_some, ↓AndK_t, ↓RsK_ok, ↓nxtK_nx, ↓nxtK_rt, ↓nxtK_bk, ↓nxtK_ct, ↓nxtK_ex, ↓VK_dat, ↓VK_own, ↓VK_dic, ↓X_V, ↓X_ret, ↓X_opt, ↓X_bind, ↓X_C, ↓X_nil, ↓X_no, ↓X_some, ↓X_yes, ↓X_cons, ↓X_bin, ↓X_un, ↓X_ix, ↓X_B, ↓X_BF, ↓X_binF, ↓X_tup, ↓X_lst, ↓X_lstF, ↓X_bOf, ↓X_and, ↓X_or, ↓X_not, ↓BoK_b, ↓X_eAnd, ↓X_eOr, ↓X_eNot, ↓X_eIf, ↓X_sl, ↓X_fz, ↓X_chain, ↓X_call, ↓X_meth, ↓X_rng1, ↓X_rng2, ↓X_rng3, ↓X_iA, ↓X_lr1, ↓X_lr2, ↓X_kget, ↓X_make, ↓X_get2, ↓X_get1, ↓X_eDic, ↓LsK_l, ↓X_idx, ↓X_VO, ↓X_BO, ↓X_BFO, ↓X_binO, ↓X_ixO, ↓MuK_own, ↓OwK_own, ↓X_mut, ↓Y_nx, ↓Y_pass, ↓Y_brk, ↓Y_cnt, ↓Y_retN, ↓Y_seq, ↓Y_asg, ↓Y_set, ↓Y_own, ↓Y_dat, ↓Y_dic, ↓Y_ret, ↓Y_expr, ↓Y_if, ↓Y_par, ↓Y_par3, ↓AuK_dat, ↓Y_aug, ↓Y_for, ↓Y_while, ↓Y_setIx, slotAt_eq, slotO_own, slotO_dic, g_N, g_two, g_three, g_T, g_L, g_nil, g_cons, Option.bind_some, Option.map_some, List.getElem?_cons_zero, List.getElem?_cons_succ, List.set_cons_zero, List.set_cons_succ, ↓X_W, ↓DrK_d, ↓WkK_d, ↓RwK_ok, ↓X_fzM, ↓X_prn, ↓X_prc, ↓X_disp, ↓X_vD, ↓X_vO, ↓X_vM, ↓Y_parK, asB_b, asI_i, eqD_ii, neD_ii, ltD_ii, leD_ii, gtD_ii, geD_ii, addD_ii, subD_ii, lenD_l, lenD_t, List.length_map, List.length_range, ↓lt_l0, ↓lt_ls, ↓le_l0, ↓le_ls, ↓ln_p, ↓eq_l0, ↓eq_ls, ↓sm_l, if_true, if_false, nI_eq, d1, d2]
      refine E_mapG nI (List.range m) (fun k => .int ((((digs x b m).getD k 0 + (digs y b m).getD k 0) % b) * (pows b).getD k 0)) ?_ (by simp) (by simp [plainAt, plain_gv]) (by simp; omega) (fun k hk => ?_) ?_
      · simp only [↓Ep_K, ↓Wp_K, ↓IteK_t, ↓IteK_f, ↓OpK_some, ↓AndK_t, ↓RsK_ok, ↓nxtK_nx, ↓nxtK_rt, ↓nxtK_bk, ↓nxtK_ct, ↓nxtK_ex, ↓VK_dat, ↓VK_own, ↓VK_dic, ↓X_V, ↓X_ret, ↓X_opt, ↓X_bind, ↓X_C, ↓X_nil, ↓X_no, ↓X_some, ↓X_yes, ↓X_cons, ↓X_bin, ↓X_un, ↓X_ix, ↓X_B, ↓X_BF, ↓X_binF, ↓X_tup, ↓X_lst, ↓X_lstF, ↓X_bOf, ↓X_and, ↓X_or, ↓X_not, ↓BoK_b, ↓X_eAnd, ↓X_eOr, ↓X_eNot, ↓X_eIf, ↓X_sl, ↓X_fz, ↓X_chain, ↓X_call, ↓X_meth, ↓X_rng1, ↓X_rng2, ↓X_rng3, ↓X_iA, ↓X_lr1, ↓X_lr2, ↓X_kget, ↓X_make, ↓X_get2, ↓X_get1, ↓X_eDic, ↓LsK_l, ↓X_idx, ↓X_VO, ↓X_BO, ↓X_BFO, ↓X_binO, ↓X_ixO, ↓MuK_own, ↓OwK_own, ↓X_mut, ↓Y_nx, ↓Y_pass, ↓Y_brk, ↓Y_cnt, ↓Y_retN, ↓Y_seq, ↓Y_asg, ↓Y_set, ↓Y_own, ↓Y_dat, ↓Y_dic, ↓Y_ret, ↓Y_expr, ↓Y_if, ↓Y_par, ↓Y_par3, ↓AuK_dat, ↓Y_aug, ↓Y_for, ↓Y_while, ↓Y_setIx, slotAt_eq, slotO_own, slotO_dic, g_N, g_two, g_three, g_T, g_L, g_nil, g_cons, Option.bind_some, Option.map_some, List.getElem?_cons_zero, List.getElem?_cons_succ, List.set_cons_zero, List.set_cons_succ, ↓X_W, ↓DrK_d, ↓WkK_d, ↓RwK_ok, ↓X_fzM, ↓X_prn, ↓X_prc, ↓X_disp, ↓X_vD, ↓X_vO, ↓X_vM, ↓Y_parK, asB_b, asI_i, eqD_ii, neD_ii, ltD_ii, leD_ii, gtD_ii, geD_ii, addD_ii, subD_ii, lenD_l, lenD_t, List.length_map, List.length_range, ↓lt_l0, ↓lt_ls, ↓le_l0, ↓le_ls, ↓ln_p, ↓eq_l0, ↓eq_ls, ↓sm_l, if_true, if_false, rng1_ok (n := m) (by omega), list_range, and_self]
      · have hk := List.mem_range.mp hk
        have hm := Int.emod_nonneg ((digs x b m).getD k 0 + (digs y b m).getD k 0) (b := (b : Int)) (by omega)
        have hm2 := Int.emod_lt_of_pos ((digs x b m).getD k 0 + (digs y b m).getD k 0) hb0
        have q1 := ixD_l (digs_get (n := x) (b := b) hk)
        have q2 := ixD_l (digs_get (n := y) (b := b) hk)
        simp only [↓Ep_K, ↓Wp_K, ↓IteK_t, ↓IteK_f, ↓OpK_some, ↓AndK_t, ↓RsK_ok, ↓nxtK_nx, ↓nxtK_rt, ↓nxtK_bk, ↓nxtK_ct, ↓nxtK_ex, ↓VK_dat, ↓VK_own, ↓VK_dic, ↓X_V, ↓X_ret, ↓X_opt, ↓X_bind, ↓X_C, ↓X_nil, ↓X_no, ↓X_some, ↓X_yes, ↓X_cons, ↓X_bin, ↓X_un, ↓X_ix, ↓X_B, ↓X_BF, ↓X_binF, ↓X_tup, ↓X_lst, ↓X_lstF, ↓X_bOf, ↓X_and, ↓X_or, ↓X_not, ↓BoK_b, ↓X_eAnd, ↓X_eOr, ↓X_eNot, ↓X_eIf, ↓X_sl, ↓X_fz, ↓X_chain, ↓X_call, ↓X_meth, ↓X_rng1, ↓X_rng2, ↓X_rng3, ↓X_iA, ↓X_lr1, ↓X_lr2, ↓X_kget, ↓X_make, ↓X_get2, ↓X_get1, ↓X_eDic, ↓LsK_l, ↓X_idx, ↓X_VO, ↓X_BO, ↓X_BFO, ↓X_binO, ↓X_ixO, ↓MuK_own, ↓OwK_own, ↓X_mut, ↓Y_nx, ↓Y_pass, ↓Y_brk, ↓Y_cnt, ↓Y_retN, ↓Y_seq, ↓Y_asg, ↓Y_set, ↓Y_own, ↓Y_dat, ↓Y_dic, ↓Y_ret, ↓Y_expr, ↓Y_if, ↓Y_par, ↓Y_par3, ↓AuK_dat, ↓Y_aug, ↓Y_for, ↓Y_while, ↓Y_setIx, slotAt_eq, slotO_own, slotO_dic, g_N, g_two, g_three, g_T, g_L, g_nil, g_cons, Option.bind_some, Option.map_some, List.getElem?_cons_zero, List.getElem?_cons_succ, List.set_cons_zero, List.set_cons_succ, ↓X_W, ↓DrK_d, ↓WkK_d, ↓RwK_ok, ↓X_fzM, ↓X_prn, ↓X_prc, ↓X_disp, ↓X_vD, ↓X_vO, ↓X_vM, ↓Y_parK, asB_b, asI_i, eqD_ii, neD_ii, ltD_ii, leD_ii, gtD_ii, geD_ii, addD_ii, subD_ii, lenD_l, lenD_t, List.length_map, List.length_range, ↓lt_l0, ↓lt_ls, ↓le_l0, ↓le_ls, ↓ln_p, ↓eq_l0, ↓eq_ls, ↓sm_l, if_true, if_false, nI_eq, q1, q2, intD_i, modD_ii hb0, mulD_ii (i := (b : Int)) (.inl hb1), mulD_ii (j := (b : Int)) (.inr hb1), ix_pows (show k < 4 by omega), mulD_ii (i := ((digs x b m).getD k 0 + (digs y b m).getD k 0) % b) (.inl ⟨by omega, by omega⟩), and_self]
      simp only [↓Ep_K, ↓Wp_K, ↓IteK_t, ↓IteK_f, ↓OpK_some, ↓AndK_t, ↓RsK_ok, ↓nxtK_nx, ↓nxtK_rt, ↓nxtK_bk, ↓nxtK_ct, ↓nxtK_ex, ↓VK_dat, ↓VK_own, ↓VK_dic, ↓X_V, ↓X_ret, ↓X_opt, ↓X_bind, ↓X_C, ↓X_nil, ↓X_no, ↓X_some, ↓X_yes, ↓X_cons, ↓X_bin, ↓X_un, ↓X_ix, ↓X_B, ↓X_BF, ↓X_binF, ↓X_tup, ↓X_lst, ↓X_lstF, ↓X_bOf, ↓X_and, ↓X_or, ↓X_not, ↓BoK_b, ↓X_eAnd, ↓X_eOr, ↓X_eNot, ↓X_eIf, ↓X_sl, ↓X_fz, ↓X_chain, ↓X_call, ↓X_meth, ↓X_rng1, ↓X_rng2, ↓X_rng3, ↓X_iA, ↓X_lr1, ↓X_lr2, ↓X_kget, ↓X_make, ↓X_get2, ↓X_get1, ↓X_eDic, ↓LsK_l, ↓X_idx, ↓X_VO, ↓X_BO, ↓X_BFO, ↓X_binO, ↓X_ixO, ↓MuK_own, ↓OwK_own, ↓X_mut, ↓Y_nx, ↓Y_pass, ↓Y_brk, ↓Y_cnt, ↓Y_retN, ↓Y_seq, ↓Y_asg, ↓Y_set, ↓Y_own, ↓Y_dat, ↓Y_dic, ↓Y_ret, ↓Y_expr, ↓Y_if, ↓Y_par, ↓Y_par3, ↓AuK_dat, ↓Y_aug, ↓Y_for, ↓Y_while, ↓Y_setIx, slotAt_eq, slotO_own, slotO_dic, g_N, g_two, g_three, g_T, g_L, g_nil, g_cons, Option.bind_some, Option.map_some, List.getElem?_cons_zero, List.getElem?_cons_succ, List.set_cons_zero, List.set_cons_succ, ↓X_W, ↓DrK_d, ↓WkK_d, ↓RwK_ok, ↓X_fzM, ↓X_prn, ↓X_prc, ↓X_disp, ↓X_vD, ↓X_vO, ↓X_vM, ↓Y_parK, asB_b, asI_i, eqD_ii, neD_ii, ltD_ii, leD_ii, gtD_ii, geD_ii, addD_ii, subD_ii, lenD_l, lenD_t, List.length_map, List.length_range, ↓lt_l0, ↓lt_ls, ↓le_l0, ↓le_ls, ↓ln_p, ↓eq_l0, ↓eq_ls, ↓sm_l, if_true, if_false, sumD_mapf]
      refine OpK.of (app_range (f := fun y : Nat => .int (lsum b m x y)) (i := y) (by omega)) ?_
      simp only [↓Ep_K, ↓Wp_K, ↓IteK_t, ↓IteK_f, ↓OpK_some, ↓AndK_t, ↓RsK_ok, ↓nxtK_nx, ↓nxtK_rt, ↓nxtK_bk, ↓nxtK_ct, ↓nxtK_ex, ↓VK_dat, ↓VK_own, ↓VK_dic, ↓X_V, ↓X_ret, ↓X_opt, ↓X_bind, ↓X_C, ↓X_nil, ↓X_no, ↓X_some, ↓X_yes, ↓X_cons, ↓X_bin, ↓X_un, ↓X_ix, ↓X_B, ↓X_BF, ↓X_binF, ↓X_tup, ↓X_lst, ↓X_lstF, ↓X_bOf, ↓X_and, ↓X_or, ↓X_not, ↓BoK_b, ↓X_eAnd, ↓X_eOr, ↓X_eNot, ↓X_eIf, ↓X_sl, ↓X_fz, ↓X_chain, ↓X_call, ↓X_meth, ↓X_rng1, ↓X_rng2, ↓X_rng3, ↓X_iA, ↓X_lr1, ↓X_lr2, ↓X_kget, ↓X_make, ↓X_get2, ↓X_get1, ↓X_eDic, ↓LsK_l, ↓X_idx, ↓X_VO, ↓X_BO, ↓X_BFO, ↓X_binO, ↓X_ixO, ↓MuK_own, ↓OwK_own, ↓X_mut, ↓Y_nx, ↓Y_pass, ↓Y_brk, ↓Y_cnt, ↓Y_retN, ↓Y_seq, ↓Y_asg, ↓Y_set, ↓Y_own, ↓Y_dat, ↓Y_dic, ↓Y_ret, ↓Y_expr, ↓Y_if, ↓Y_par, ↓Y_par3, ↓AuK_dat, ↓Y_aug, ↓Y_for, ↓Y_while, ↓Y_setIx, slotAt_eq, slotO_own, slotO_dic, g_N, g_two, g_three, g_T, g_L, g_nil, g_cons, Option.bind_some, Option.map_some, List.getElem?_cons_zero, List.getElem?_cons_succ, List.set_cons_zero, List.set_cons_succ, ↓X_W, ↓DrK_d, ↓WkK_d, ↓RwK_ok, ↓X_fzM, ↓X_prn, ↓X_prc, ↓X_disp, ↓X_vD, ↓X_vO, ↓X_vM, ↓Y_parK, asB_b, asI_i, eqD_ii, neD_ii, ltD_ii, leD_ii, gtD_ii, geD_ii, addD_ii, subD_ii, lenD_l, lenD_t, List.length_map, List.length_range, ↓lt_l0, ↓lt_ls, ↓le_l0, ↓le_ls, ↓ln_p, ↓eq_l0, ↓eq_ls, ↓sm_l, if_true, if_false, mulD_ii (i := 2) (.inl (by omega)), hc2, rep0 (show 2 * m - 1 < 1000 by omega), rng1_ok (n := m) (by omega), list_range]
      have hlen : (List.replicate (2 * m - 1) (0 : Int)).length = 2 * m - 1 := List.length_replicate
      have hset : ∀ (r : List Int) (p : Nat) (v : Int), (r.set p v).length = r.length := fun r p v => List.length_set
      let P : List Int → Option D × Option D × Option D → List Slot := fun r e => [.dat (.int n), .dat (.int b), .dat (.int m), .dat (.list (L.map nI)), .own ((List.range x).map fun a => rowI n (fadd n a)), .own ((List.range x).map fun a => rowI n (fmul n a)), .dat (.int x), .own ((List.range (y + 1)).map fun y : Nat => .int (lsum b m x y)), .own ((List.range y).map fun y : Nat => .int (lprod b L m x y)), .dat (.int y),
        .dat (.list ((digs x b m).map PyData.int)), .dat (.list ((digs y b m).map PyData.int)), .own (r.map PyData.int), gv e.1, gv e.2.1, gv e.2.2]
      refine W_forE nI (st := P) (step := fun r i => (List.range m).foldl (fun r j => r.set (i + j) (r.getD (i + j) 0 + (digs x b m).getD i 0 * (digs y b m).getD j 0)) r) (I := fun _ r => r.length = 2 * m - 1) _ (_, _, _) hlen (fun i x' hi r e hr => ?_) (fun e hr => ?_)
      · obtain ⟨hi', rfl⟩ : i < m ∧ i = x' := by
          obtain ⟨h1, h2⟩ := List.getElem?_eq_some_iff.mp hi
          rw [List.length_range] at h1
          rw [List.getElem_range] at h2
          exact ⟨h1, h2⟩
        refine ⟨(fold_len _ (fun r j => hset _ _ _) _ _).trans hr, _, rfl, ?_⟩
        simp only [P, ↓Ep_K, ↓Wp_K, ↓IteK_t, ↓IteK_f, ↓OpK_some, ↓AndK_t, ↓RsK_ok, ↓nxtK_nx, ↓nxtK_rt, ↓nxtK_bk, ↓nxtK_ct, ↓nxtK_ex, ↓VK_dat, ↓VK_own, ↓VK_dic, ↓X_V, ↓X_ret, ↓X_opt, ↓X_bind, ↓X_C, ↓X_nil, ↓X_no, ↓X_some, ↓X_yes, ↓X_cons, ↓X_bin, ↓X_un, ↓X_ix, ↓X_B, ↓X_BF, ↓X_binF, ↓X_tup, ↓X_lst, ↓X_lstF, ↓X_bOf, ↓X_and, ↓X_or, ↓X_not, ↓BoK_b, ↓X_eAnd, ↓X_eOr, ↓X_eNot, ↓X_eIf, ↓X_sl, ↓X_fz, ↓X_chain, ↓X_call, ↓X_meth, ↓X_rng1, ↓X_rng2, ↓X_rng3, ↓X_iA, ↓X_lr1, ↓X_lr2, ↓X_kget, ↓X_make, ↓X_get2, ↓X_get1, ↓X_eDic, ↓LsK_l, ↓X_idx, ↓X_VO, ↓X_BO, ↓X_BFO, ↓X_binO, ↓X_ixO, ↓MuK_own, ↓OwK_own, ↓X_mut, ↓Y_nx, ↓Y_pass, ↓Y_brk, ↓Y_cnt, ↓Y_retN, ↓Y_seq, ↓Y_asg, ↓Y_set, ↓Y_own, ↓Y_dat, ↓Y_dic, ↓Y_ret, ↓Y_expr, ↓Y_if, ↓Y_par, ↓Y_par3, ↓AuK_dat, ↓Y_aug, ↓Y_for, ↓Y_while, ↓Y_setIx, slotAt_eq, slotO_own, slotO_dic, g_N, g_two, g_three, g_T, g_L, g_nil, g_cons, Option.bind_some, Option.map_some, List.getElem?_cons_zero, List.getElem?_cons_succ, List.set_cons_zero, List.set_cons_succ, ↓X_W, ↓DrK_d, ↓WkK_d, ↓RwK_ok, ↓X_fzM, ↓X_prn, ↓X_prc, ↓X_disp, ↓X_vD, ↓X_vO, ↓X_vM, ↓Y_parK, asB_b, asI_i, eqD_ii, neD_ii, ltD_ii, leD_ii, gtD_ii, geD_ii, addD_ii, subD_ii, lenD_l, lenD_t, List.length_map, List.length_range, ↓lt_l0, ↓lt_ls, ↓le_l0, ↓le_ls, ↓ln_p, ↓eq_l0, ↓eq_ls, ↓sm_l, if_true, if_false, nI_eq, rng1_ok (n := m) (by omega), list_range]
        refine W_forE nI (st := fun r e => P r (some (.int (i : Nat)), e)) (step := fun r j => r.set (i + j) (r.getD (i + j) 0 + (digs x b m).getD i 0 * (digs y b m).getD j 0)) (I := fun _ r => r.length = 2 * m - 1) r (_, _) hr (fun j y' hj r e hr => ?_) (fun e hr => ?_)
        · obtain ⟨hj', rfl⟩ : j < m ∧ j = y' := by
            obtain ⟨h1, h2⟩ := List.getElem?_eq_some_iff.mp hj
            rw [List.length_range] at h1
            rw [List.getElem_range] at h2
            exact ⟨h1, h2⟩
          refine ⟨(hset _ _ _).trans hr, _, rfl, ?_⟩
          have hc3 : (i : Int) + (j : Int) = ((i + j : Nat) : Int) := by omega
          have hd := digs_bd hb0 m (x : Int) ((digs x b m).getD i 0) (by rw [List.getD_eq_getElem?_getD, List.getElem?_eq_getElem (by rw [digs_length]; exact hi')]; exact List.getElem_mem _)
          have q1 := ixD_l (digs_get (n := x) (b := b) hi')
          have q2 := ixD_l (digs_get (n := y) (b := b) hj')
          simp only [P, gv, ↓Ep_K, ↓Wp_K, ↓IteK_t, ↓IteK_f, ↓OpK_some, ↓AndK_t, ↓RsK_ok, ↓nxtK_nx, ↓nxtK_rt, ↓nxtK_bk, ↓nxtK_ct, ↓nxtK_ex, ↓VK_dat, ↓VK_own, ↓VK_dic, ↓X_V, ↓X_ret, ↓X_opt, ↓X_bind, ↓X_C, ↓X_nil, ↓X_no, ↓X_some, ↓X_yes, ↓X_cons, ↓X_bin, ↓X_un, ↓X_ix, ↓X_B, ↓X_BF, ↓X_binF, ↓X_tup, ↓X_lst, ↓X_lstF, ↓X_bOf, ↓X_and, ↓X_or, ↓X_not, ↓BoK_b, ↓X_eAnd, ↓X_eOr, ↓X_eNot, ↓X_eIf, ↓X_sl, ↓X_fz, ↓X_chain, ↓X_call, ↓X_meth, ↓X_rng1, ↓X_rng2, ↓X_rng3, ↓X_iA, ↓X_lr1, ↓X_lr2, ↓X_kget, ↓X_make, ↓X_get2, ↓X_get1, ↓X_eDic, ↓LsK_l, ↓X_idx, ↓X_VO, ↓X_BO, ↓X_BFO, ↓X_binO, ↓X_ixO, ↓MuK_own, ↓OwK_own, ↓X_mut, ↓Y_nx, ↓Y_pass, ↓Y_brk, ↓Y_cnt, ↓Y_retN, ↓Y_seq, ↓Y_asg, ↓Y_set, ↓Y_own, ↓Y_dat, ↓Y_dic, ↓Y_ret, ↓Y_expr, ↓Y_if, ↓Y_par, ↓Y_par3, ↓AuK_dat, ↓Y_aug, ↓Y_for, ↓Y_while, ↓Y_setIx, slotAt_eq, slotO_own, slotO_dic, g_N, g_two, g_three, g_T, g_L, g_nil, g_cons, Option.bind_some, Option.map_some, List.getElem?_cons_zero, List.getElem?_cons_succ, List.set_cons_zero, List.set_cons_succ, ↓X_W, ↓DrK_d, ↓WkK_d, ↓RwK_ok, ↓X_fzM, ↓X_prn, ↓X_prc, ↓X_disp, ↓X_vD, ↓X_vO, ↓X_vM, ↓Y_parK, asB_b, asI_i, eqD_ii, neD_ii, ltD_ii, leD_ii, gtD_ii, geD_ii, addD_ii, subD_ii, lenD_l, lenD_t, List.length_map, List.length_range, ↓lt_l0, ↓lt_ls, ↓le_l0, ↓le_ls, ↓ln_p, ↓eq_l0, ↓eq_ls, ↓sm_l, if_true, if_false, nI_eq, hc3, q1, q2, ix_i (row := r) (p := i + j) (by omega), mulD_ii (i := (digs x b m).getD i 0) (.inl ⟨by omega, by omega⟩), setAt_i (row := r) (p := i + j) (by omega)]
          exact ⟨(some _, _), .inl rfl⟩
        · simp only [↓Ep_K, ↓Wp_K, ↓IteK_t, ↓IteK_f, ↓OpK_some, ↓AndK_t, ↓RsK_ok, ↓nxtK_nx, ↓nxtK_rt, ↓nxtK_bk, ↓nxtK_ct, ↓nxtK_ex, ↓VK_dat, ↓VK_own, ↓VK_dic, ↓X_V, ↓X_ret, ↓X_opt, ↓X_bind, ↓X_C, ↓X_nil, ↓X_no, ↓X_some, ↓X_yes, ↓X_cons, ↓X_bin, ↓X_un, ↓X_ix, ↓X_B, ↓X_BF, ↓X_binF, ↓X_tup, ↓X_lst, ↓X_lstF, ↓X_bOf, ↓X_and, ↓X_or, ↓X_not, ↓BoK_b, ↓X_eAnd, ↓X_eOr, ↓X_eNot, ↓X_eIf, ↓X_sl, ↓X_fz, ↓X_chain, ↓X_call, ↓X_meth, ↓X_rng1, ↓X_rng2, ↓X_rng3, ↓X_iA, ↓X_lr1, ↓X_lr2, ↓X_kget, ↓X_make, ↓X_get2, ↓X_get1, ↓X_eDic, ↓LsK_l, ↓X_idx, ↓X_VO, ↓X_BO, ↓X_BFO, ↓X_binO, ↓X_ixO, ↓MuK_own, ↓OwK_own, ↓X_mut, ↓Y_nx, ↓Y_pass, ↓Y_brk, ↓Y_cnt, ↓Y_retN, ↓Y_seq, ↓Y_asg, ↓Y_set, ↓Y_own, ↓Y_dat, ↓Y_dic, ↓Y_ret, ↓Y_expr, ↓Y_if, ↓Y_par, ↓Y_par3, ↓AuK_dat, ↓Y_aug, ↓Y_for, ↓Y_while, ↓Y_setIx, slotAt_eq, slotO_own, slotO_dic, g_N, g_two, g_three, g_T, g_L, g_nil, g_cons, Option.bind_some, Option.map_some, List.getElem?_cons_zero, List.getElem?_cons_succ, List.set_cons_zero, List.set_cons_succ, ↓X_W, ↓DrK_d, ↓WkK_d, ↓RwK_ok, ↓X_fzM, ↓X_prn, ↓X_prc, ↓X_disp, ↓X_vD, ↓X_vO, ↓X_vM, ↓Y_parK, asB_b, asI_i, eqD_ii, neD_ii, ltD_ii, leD_ii, gtD_ii, geD_ii, addD_ii, subD_ii, lenD_l, lenD_t, List.length_map, List.length_range, ↓lt_l0, ↓lt_ls, ↓le_l0, ↓le_ls, ↓ln_p, ↓eq_l0, ↓eq_ls, ↓sm_l, if_true, if_false]
          exact ⟨_, .inl rfl⟩
      have hrng : lr2 (.int (m : Nat)) (.int ((2 * m - 1 : Nat) : Int)) = some ((List.range (m - 1)).map fun k => nI (m + k)) := by
        have e := lr2_ok (i := m) (j := 2 * m - 1) (by omega) (by omega)
        rw [show 2 * m - 1 - m = m - 1 by omega] at e
        exact e
      have hrev : revD (.list ((List.range (m - 1)).map fun k => nI (m + k))) = some (.list (((List.range (m - 1)).map fun k => m + k).reverse.map nI)) := by
        show some (PyData.list _) = _
        rw [← List.map_reverse, ← List.map_reverse, List.map_map]
        rfl
      simp only [P, ↓Ep_K, ↓Wp_K, ↓IteK_t, ↓IteK_f, ↓OpK_some, ↓AndK_t, ↓RsK_ok, ↓nxtK_nx, ↓nxtK_rt, ↓nxtK_bk, ↓nxtK_ct, ↓nxtK_ex, ↓VK_dat, ↓VK_own, ↓VK_dic, ↓X_V, ↓X_ret, ↓X_opt, ↓X_bind, ↓X_C, ↓X_nil, ↓X_no, ↓X_some, ↓X_yes, ↓X_cons, ↓X_bin, ↓X_un, ↓X_ix, ↓X_B, ↓X_BF, ↓X_binF, ↓X_tup, ↓X_lst, ↓X_lstF, ↓X_bOf, ↓X_and, ↓X_or, ↓X_not, ↓BoK_b, ↓X_eAnd, ↓X_eOr, ↓X_eNot, ↓X_eIf, ↓X_sl, ↓X_fz, ↓X_chain, ↓X_call, ↓X_meth, ↓X_rng1, ↓X_rng2, ↓X_rng3, ↓X_iA, ↓X_lr1, ↓X_lr2, ↓X_kget, ↓X_make, ↓X_get2, ↓X_get1, ↓X_eDic, ↓LsK_l, ↓X_idx, ↓X_VO, ↓X_BO, ↓X_BFO, ↓X_binO, ↓X_ixO, ↓MuK_own, ↓OwK_own, ↓X_mut, ↓Y_nx, ↓Y_pass, ↓Y_brk, ↓Y_cnt, ↓Y_retN, ↓Y_seq, ↓Y_asg, ↓Y_set, ↓Y_own, ↓Y_dat, ↓Y_dic, ↓Y_ret, ↓Y_expr, ↓Y_if, ↓Y_par, ↓Y_par3, ↓AuK_dat, ↓Y_aug, ↓Y_for, ↓Y_while, ↓Y_setIx, slotAt_eq, slotO_own, slotO_dic, g_N, g_two, g_three, g_T, g_L, g_nil, g_cons, Option.bind_some, Option.map_some, List.getElem?_cons_zero, List.getElem?_cons_succ, List.set_cons_zero, List.set_cons_succ, ↓X_W, ↓DrK_d, ↓WkK_d, ↓RwK_ok, ↓X_fzM, ↓X_prn, ↓X_prc, ↓X_disp, ↓X_vD, ↓X_vO, ↓X_vM, ↓Y_parK, asB_b, asI_i, eqD_ii, neD_ii, ltD_ii, leD_ii, gtD_ii, geD_ii, addD_ii, subD_ii, lenD_l, lenD_t, List.length_map, List.length_range, ↓lt_l0, ↓lt_ls, ↓le_l0, ↓le_ls, ↓ln_p, ↓eq_l0, ↓eq_ls, ↓sm_l, if_true, if_false, mulD_ii (i := 2) (.inl (by omega)), hc2, hrng, hrev, walk_l]
      have hr0 : (lconv (digs x b m) (digs y b m) m (List.replicate (2 * m - 1) 0)).length = 2 * m - 1 := hr
      refine W_forE nI (st := fun r e => P r e) (step := fun r k => (List.range m).foldl (fun r j => r.set (k - m + j) (r.getD (k - m + j) 0 + r.getD k 0 * (L.getD j 0 : Nat))) r) (I := fun _ r => r.length = 2 * m - 1) (lconv (digs x b m) (digs y b m) m (List.replicate (2 * m - 1) 0)) (_, _, _) hr0 (fun i k hk r e hr => ?_) (fun e hr => ?_)
      · have hk := List.mem_of_getElem? hk
        rw [List.mem_reverse] at hk
        obtain ⟨k', hk', rfl⟩ := List.mem_map.mp hk
        have hk' := List.mem_range.mp hk'
        refine ⟨(fold_len _ (fun r j => hset _ _ _) _ _).trans hr, _, rfl, ?_⟩
        simp only [P, ↓Ep_K, ↓Wp_K, ↓IteK_t, ↓IteK_f, ↓OpK_some, ↓AndK_t, ↓RsK_ok, ↓nxtK_nx, ↓nxtK_rt, ↓nxtK_bk, ↓nxtK_ct, ↓nxtK_ex, ↓VK_dat, ↓VK_own, ↓VK_dic, ↓X_V, ↓X_ret, ↓X_opt, ↓X_bind, ↓X_C, ↓X_nil, ↓X_no, ↓X_some, ↓X_yes, ↓X_cons, ↓X_bin, ↓X_un, ↓X_ix, ↓X_B, ↓X_BF, ↓X_binF, ↓X_tup, ↓X_lst, ↓X_lstF, ↓X_bOf, ↓X_and, ↓X_or, ↓X_not, ↓BoK_b, ↓X_eAnd, ↓X_eOr, ↓X_eNot, ↓X_eIf, ↓X_sl, ↓X_fz, ↓X_chain, ↓X_call, ↓X_meth, ↓X_rng1, ↓X_rng2, ↓X_rng3, ↓X_iA, ↓X_lr1, ↓X_lr2, ↓X_kget, ↓X_make, ↓X_get2, ↓X_get1, ↓X_eDic, ↓LsK_l, ↓X_idx, ↓X_VO, ↓X_BO, ↓X_BFO, ↓X_binO, ↓X_ixO, ↓MuK_own, ↓OwK_own, ↓X_mut, ↓Y_nx, ↓Y_pass, ↓Y_brk, ↓Y_cnt, ↓Y_retN, ↓Y_seq, ↓Y_asg, ↓Y_set, ↓Y_own, ↓Y_dat, ↓Y_dic, ↓Y_ret, ↓Y_expr, ↓Y_if, ↓Y_par, ↓Y_par3, ↓AuK_dat, ↓Y_aug, ↓Y_for, ↓Y_while, ↓Y_setIx, slotAt_eq, slotO_own, slotO_dic, g_N, g_two, g_three, g_T, g_L, g_nil, g_cons, Option.bind_some, Option.map_some, List.getElem?_cons_zero, List.getElem?_cons_succ, List.set_cons_zero, List.set_cons_succ, ↓X_W, ↓DrK_d, ↓WkK_d, ↓RwK_ok, ↓X_fzM, ↓X_prn, ↓X_prc, ↓X_disp, ↓X_vD, ↓X_vO, ↓X_vM, ↓Y_parK, asB_b, asI_i, eqD_ii, neD_ii, ltD_ii, leD_ii, gtD_ii, geD_ii, addD_ii, subD_ii, lenD_l, lenD_t, List.length_map, List.length_range, ↓lt_l0, ↓lt_ls, ↓le_l0, ↓le_ls, ↓ln_p, ↓eq_l0, ↓eq_ls, ↓sm_l, if_true, if_false, nI_eq, rng1_ok (n := m) (by omega), list_range]
        refine W_forE nI (st := fun r (e' : Option D) => P r (e.1, e', some (.int ((m + k' : Nat) : Int)))) (step := fun r j => r.set (m + k' - m + j) (r.getD (m + k' - m + j) 0 + r.getD (m + k') 0 * (L.getD j 0 : Nat))) (I := fun _ r => r.length = 2 * m - 1) r _ hr (fun j y' hj r e' hr => ?_) (fun e' hr => ?_)
        · obtain ⟨hj', rfl⟩ : j < m ∧ j = y' := by
            obtain ⟨h1, h2⟩ := List.getElem?_eq_some_iff.mp hj
            rw [List.length_range] at h1
            rw [List.getElem_range] at h2
            exact ⟨h1, h2⟩
          refine ⟨(hset _ _ _).trans hr, _, rfl, ?_⟩
          have hc3 : ((m + k' : Nat) : Int) - (m : Int) + (j : Int) = ((m + k' - m + j : Nat) : Int) := by omega
          have hl := hL j hj'
          have q2 := (show Row (.list (L.map nI)) L from .inl rfl).ix (k := j) (by omega)
          simp only [P, gv, ↓Ep_K, ↓Wp_K, ↓IteK_t, ↓IteK_f, ↓OpK_some, ↓AndK_t, ↓RsK_ok, ↓nxtK_nx, ↓nxtK_rt, ↓nxtK_bk, ↓nxtK_ct, ↓nxtK_ex, ↓VK_dat, ↓VK_own, ↓VK_dic, ↓X_V, ↓X_ret, ↓X_opt, ↓X_bind, ↓X_C, ↓X_nil, ↓X_no, ↓X_some, ↓X_yes, ↓X_cons, ↓X_bin, ↓X_un, ↓X_ix, ↓X_B, ↓X_BF, ↓X_binF, ↓X_tup, ↓X_lst, ↓X_lstF, ↓X_bOf, ↓X_and, ↓X_or, ↓X_not, ↓BoK_b, ↓X_eAnd, ↓X_eOr, ↓X_eNot, ↓X_eIf, ↓X_sl, ↓X_fz, ↓X_chain, ↓X_call, ↓X_meth, ↓X_rng1, ↓X_rng2, ↓X_rng3, ↓X_iA, ↓X_lr1, ↓X_lr2, ↓X_kget, ↓X_make, ↓X_get2, ↓X_get1, ↓X_eDic, ↓LsK_l, ↓X_idx, ↓X_VO, ↓X_BO, ↓X_BFO, ↓X_binO, ↓X_ixO, ↓MuK_own, ↓OwK_own, ↓X_mut, ↓Y_nx, ↓Y_pass, ↓Y_brk, ↓Y_cnt, ↓Y_retN, ↓Y_seq, ↓Y_asg, ↓Y_set, ↓Y_own, ↓Y_dat, ↓Y_dic, ↓Y_ret, ↓Y_expr, ↓Y_if, ↓Y_par, ↓Y_par3, ↓AuK_dat, ↓Y_aug, ↓Y_for, ↓Y_while, ↓Y_setIx, slotAt_eq, slotO_own, slotO_dic, g_N, g_two, g_three, g_T, g_L, g_nil, g_cons, Option.bind_some, Option.map_some, List.getElem?_cons_zero, List.getElem?_cons_succ, List.set_cons_zero, List.set_cons_succ, ↓X_W, ↓DrK_d, ↓WkK_d, ↓RwK_ok, ↓X_fzM, ↓X_prn, ↓X_prc, ↓X_disp, ↓X_vD, ↓X_vO, ↓X_vM, ↓Y_parK, asB_b, asI_i, eqD_ii, neD_ii, ltD_ii, leD_ii, gtD_ii, geD_ii, addD_ii, subD_ii, lenD_l, lenD_t, List.length_map, List.length_range, ↓lt_l0, ↓lt_ls, ↓le_l0, ↓le_ls, ↓ln_p, ↓eq_l0, ↓eq_ls, ↓sm_l, if_true, if_false, nI_eq, hc3, q2, ix_i (row := r) (p := m + k' - m + j) (by omega), ix_i (row := r) (p := m + k') (by omega), mulD_ii (j := ((L.getD j 0 : Nat) : Int)) (.inr ⟨by omega, by omega⟩), setAt_i (row := r) (p := m + k' - m + j) (by omega)]
          exact ⟨some _, .inl rfl⟩
        · simp only [↓Ep_K, ↓Wp_K, ↓IteK_t, ↓IteK_f, ↓OpK_some, ↓AndK_t, ↓RsK_ok, ↓nxtK_nx, ↓nxtK_rt, ↓nxtK_bk, ↓nxtK_ct, ↓nxtK_ex, ↓VK_dat, ↓VK_own, ↓VK_dic, ↓X_V, ↓X_ret, ↓X_opt, ↓X_bind, ↓X_C, ↓X_nil, ↓X_no, ↓X_some, ↓X_yes, ↓X_cons, ↓X_bin, ↓X_un, ↓X_ix, ↓X_B, ↓X_BF, ↓X_binF, ↓X_tup, ↓X_lst, ↓X_lstF, ↓X_bOf, ↓X_and, ↓X_or, ↓X_not, ↓BoK_b, ↓X_eAnd, ↓X_eOr, ↓X_eNot, ↓X_eIf, ↓X_sl, ↓X_fz, ↓X_chain, ↓X_call, ↓X_meth, ↓X_rng1, ↓X_rng2, ↓X_rng3, ↓X_iA, ↓X_lr1, ↓X_lr2, ↓X_kget, ↓X_make, ↓X_get2, ↓X_get1, ↓X_eDic, ↓LsK_l, ↓X_idx, ↓X_VO, ↓X_BO, ↓X_BFO, ↓X_binO, ↓X_ixO, ↓MuK_own, ↓OwK_own, ↓X_mut, ↓Y_nx, ↓Y_pass, ↓Y_brk, ↓Y_cnt, ↓Y_retN, ↓Y_seq, ↓Y_asg, ↓Y_set, ↓Y_own, ↓Y_dat, ↓Y_dic, ↓Y_ret, ↓Y_expr, ↓Y_if, ↓Y_par, ↓Y_par3, ↓AuK_dat, ↓Y_aug, ↓Y_for, ↓Y_while, ↓Y_setIx, slotAt_eq, slotO_own, slotO_dic, g_N, g_two, g_three, g_T, g_L, g_nil, g_cons, Option.bind_some, Option.map_some, List.getElem?_cons_zero, List.getElem?_cons_succ, List.set_cons_zero, List.set_cons_succ, ↓X_W, ↓DrK_d, ↓WkK_d, ↓RwK_ok, ↓X_fzM, ↓X_prn, ↓X_prc, ↓X_disp, ↓X_vD, ↓X_vO, ↓X_vM, ↓Y_parK, asB_b, asI_i, eqD_ii, neD_ii, ltD_ii, leD_ii, gtD_ii, geD_ii, addD_ii, subD_ii, lenD_l, lenD_t, List.length_map, List.length_range, ↓lt_l0, ↓lt_ls, ↓le_l0, ↓le_ls, ↓ln_p, ↓eq_l0, ↓eq_ls, ↓sm_l, if_true, if_false]
          exact ⟨_, .inl rfl⟩
      have hr1 : (lrow b L m x y).length = 2 * m - 1 := hr
      simp only [P, ↓Ep_K, ↓Wp_K, ↓IteK_t, ↓IteK_f, ↓OpK_some, ↓AndK_t, ↓RsK_ok, ↓nxtK_nx, ↓nxtK_rt, ↓nxtK_bk, ↓nxtK_ct, ↓nxtK_ex, ↓VK_dat, ↓VK_own, ↓VK_dic, ↓X_V, ↓X_ret, ↓X_opt, ↓X_bind, ↓X_C, ↓X_nil, ↓X_no, ↓X_some, ↓X_yes, ↓X_cons, ↓X_bin, ↓X_un, ↓X_ix, ↓X_B, ↓X_BF, ↓X_binF, ↓X_tup, ↓X_lst, ↓X_lstF, ↓X_bOf, ↓X_and, ↓X_or, ↓X_not, ↓BoK_b, ↓X_eAnd, ↓X_eOr, ↓X_eNot, ↓X_eIf, ↓X_sl, ↓X_fz, ↓X_chain, ↓X_call, ↓X_meth, ↓X_rng1, ↓X_rng2, ↓X_rng3, ↓X_iA, ↓X_lr1, ↓X_lr2, ↓X_kget, ↓X_make, ↓X_get2, ↓X_get1, ↓X_eDic, ↓LsK_l, ↓X_idx, ↓X_VO, ↓X_BO, ↓X_BFO, ↓X_binO, ↓X_ixO, ↓MuK_own, ↓OwK_own, ↓X_mut, ↓Y_nx, ↓Y_pass, ↓Y_brk, ↓Y_cnt, ↓Y_retN, ↓Y_seq, ↓Y_asg, ↓Y_set, ↓Y_own, ↓Y_dat, ↓Y_dic, ↓Y_ret, ↓Y_expr, ↓Y_if, ↓Y_par, ↓Y_par3, ↓AuK_dat, ↓Y_aug, ↓Y_for, ↓Y_while, ↓Y_setIx, slotAt_eq, slotO_own, slotO_dic, g_N, g_two, g_three, g_T, g_L, g_nil, g_cons, Option.bind_some, Option.map_some, List.getElem?_cons_zero, List.getElem?_cons_succ, List.set_cons_zero, List.set_cons_succ, ↓X_W, ↓DrK_d, ↓WkK_d, ↓RwK_ok, ↓X_fzM, ↓X_prn, ↓X_prc, ↓X_disp, ↓X_vD, ↓X_vO, ↓X_vM, ↓Y_parK, asB_b, asI_i, eqD_ii, neD_ii, ltD_ii, leD_ii, gtD_ii, geD_ii, addD_ii, subD_ii, lenD_l, lenD_t, List.length_map, List.length_range, ↓lt_l0, ↓lt_ls, ↓le_l0, ↓le_ls, ↓ln_p, ↓eq_l0, ↓eq_ls, ↓sm_l, if_true, if_false]
      refine E_mapG nI (List.range m) (fun k => .int (((lrow b L m x y).getD k 0 % b) * (pows b).getD k 0)) ?_ (by simp) (by simp [plainAt, plain_gv]) (by simp; omega) (fun k hk => ?_) ?_
      · simp only [↓Ep_K, ↓Wp_K, ↓IteK_t, ↓IteK_f, ↓OpK_some, ↓AndK_t, ↓RsK_ok, ↓nxtK_nx, ↓nxtK_rt, ↓nxtK_bk, ↓nxtK_ct, ↓nxtK_ex, ↓VK_dat, ↓VK_own, ↓VK_dic, ↓X_V, ↓X_ret, ↓X_opt, ↓X_bind, ↓X_C, ↓X_nil, ↓X_no, ↓X_some, ↓X_yes, ↓X_cons, ↓X_bin, ↓X_un, ↓X_ix, ↓X_B, ↓X_BF, ↓X_binF, ↓X_tup, ↓X_lst, ↓X_lstF, ↓X_bOf, ↓X_and, ↓X_or, ↓X_not, ↓BoK_b, ↓X_eAnd, ↓X_eOr, ↓X_eNot, ↓X_eIf, ↓X_sl, ↓X_fz, ↓X_chain, ↓X_call, ↓X_meth, ↓X_rng1, ↓X_rng2, ↓X_rng3, ↓X_iA, ↓X_lr1, ↓X_lr2, ↓X_kget, ↓X_make, ↓X_get2, ↓X_get1, ↓X_eDic, ↓LsK_l, ↓X_idx, ↓X_VO, ↓X_BO, ↓X_BFO, ↓X_binO, ↓X_ixO, ↓MuK_own, ↓OwK_own, ↓X_mut, ↓Y_nx, ↓Y_pass, ↓Y_brk, ↓Y_cnt, ↓Y_retN, ↓Y_seq, ↓Y_asg, ↓Y_set, ↓Y_own, ↓Y_dat, ↓Y_dic, ↓Y_ret, ↓Y_expr, ↓Y_if, ↓Y_par, ↓Y_par3, ↓AuK_dat, ↓Y_aug, ↓Y_for, ↓Y_while, ↓Y_setIx, slotAt_eq, slotO_own, slotO_dic, g_N, g_two, g_three, g_T, g_L, g_nil, g_cons, Option.bind_some, Option.map_some, List.getElem?_cons_zero, List.getElem?_cons_succ, List.set_cons_zero, List.set_cons_succ, ↓X_W, ↓DrK_d, ↓WkK_d, ↓RwK_ok, ↓X_fzM, ↓X_prn, ↓X_prc, ↓X_disp, ↓X_vD, ↓X_vO, ↓X_vM, ↓Y_parK, asB_b, asI_i, eqD_ii, neD_ii, ltD_ii, leD_ii, gtD_ii, geD_ii, addD_ii, subD_ii, lenD_l, lenD_t, List.length_map, List.length_range, ↓lt_l0, ↓lt_ls, ↓le_l0, ↓le_ls, ↓ln_p, ↓eq_l0, ↓eq_ls, ↓sm_l, if_true, if_false, rng1_ok (n := m) (by omega), list_range, and_self]
      · have hk := List.mem_range.mp hk
        have hm := Int.emod_nonneg ((lrow b L m x y).getD k 0) (b := (b : Int)) (by omega)
        have hm2 := Int.emod_lt_of_pos ((lrow b L m x y).getD k 0) hb0
        have q1 : ixD (.list (((((List.range (m - 1)).map fun k => m + k).reverse).foldl (fun r k => (List.range m).foldl (fun r j => r.set (k - m + j) (r.getD (k - m + j) 0 + r.getD k 0 * (L.getD j 0 : Nat))) r) (lconv (digs x b m) (digs y b m) m (List.replicate (2 * m - 1) 0))).map PyData.int)) (.int (k : Nat)) = some (.int ((lrow b L m x y).getD k 0)) := ix_i (row := lrow b L m x y) (p := k) (by omega)
        simp only [↓Ep_K, ↓Wp_K, ↓IteK_t, ↓IteK_f, ↓OpK_some, ↓AndK_t, ↓RsK_ok, ↓nxtK_nx, ↓nxtK_rt, ↓nxtK_bk, ↓nxtK_ct, ↓nxtK_ex, ↓VK_dat, ↓VK_own, ↓VK_dic, ↓X_V, ↓X_ret, ↓X_opt, ↓X_bind, ↓X_C, ↓X_nil, ↓X_no, ↓X_some, ↓X_yes, ↓X_cons, ↓X_bin, ↓X_un, ↓X_ix, ↓X_B, ↓X_BF, ↓X_binF, ↓X_tup, ↓X_lst, ↓X_lstF, ↓X_bOf, ↓X_and, ↓X_or, ↓X_not, ↓BoK_b, ↓X_eAnd, ↓X_eOr, ↓X_eNot, ↓X_eIf, ↓X_sl, ↓X_fz, ↓X_chain, ↓X_call, ↓X_meth, ↓X_rng1, ↓X_rng2, ↓X_rng3, ↓X_iA, ↓X_lr1, ↓X_lr2, ↓X_kget, ↓X_make, ↓X_get2, ↓X_get1, ↓X_eDic, ↓LsK_l, ↓X_idx, ↓X_VO, ↓X_BO, ↓X_BFO, ↓X_binO, ↓X_ixO, ↓MuK_own, ↓OwK_own, ↓X_mut, ↓Y_nx, ↓Y_pass, ↓Y_brk, ↓Y_cnt, ↓Y_retN, ↓Y_seq, ↓Y_asg, ↓Y_set, ↓Y_own, ↓Y_dat, ↓Y_dic, ↓Y_ret, ↓Y_expr, ↓Y_if, ↓Y_par, ↓Y_par3, ↓AuK_dat, ↓Y_aug, ↓Y_for, ↓Y_while, ↓Y_setIx, slotAt_eq, slotO_own, slotO_dic, g_N, g_two, g_three, g_T, g_L, g_nil, g_cons, Option.bind_some, Option.map_some, List.getElem?_cons_zero, List.getElem?_cons_succ, List.set_cons_zero, List.set_cons_succ, ↓X_W, ↓DrK_d, ↓WkK_d, ↓RwK_ok, ↓X_fzM, ↓X_prn, ↓X_prc, ↓X_disp, ↓X_vD, ↓X_vO, ↓X_vM, ↓Y_parK, asB_b, asI_i, eqD_ii, neD_ii, ltD_ii, leD_ii, gtD_ii, geD_ii, addD_ii, subD_ii, lenD_l, lenD_t, List.length_map, List.length_range, ↓lt_l0, ↓lt_ls, ↓le_l0, ↓le_ls, ↓ln_p, ↓eq_l0, ↓eq_ls, ↓sm_l, if_true, if_false, nI_eq, q1, intD_i, modD_ii hb0, mulD_ii (i := (b : Int)) (.inl hb1), mulD_ii (j := (b : Int)) (.inr hb1), ix_pows (show k < 4 by omega), mulD_ii (i := (lrow b L m x y).getD k 0 % b) (.inl ⟨by omega, by omega⟩), and_self]
      simp only [↓Ep_K, ↓Wp_K, ↓IteK_t, ↓IteK_f, ↓OpK_some, ↓AndK_t, ↓RsK_ok, ↓nxtK_nx, ↓nxtK_rt, ↓nxtK_bk, ↓nxtK_ct, ↓nxtK_ex, ↓VK_dat, ↓VK_own, ↓VK_dic, ↓X_V, ↓X_ret, ↓X_opt, ↓X_bind, ↓X_C, ↓X_nil, ↓X_no, ↓X_some, ↓X_yes, ↓X_cons, ↓X_bin, ↓X_un, ↓X_ix, ↓X_B, ↓X_BF, ↓X_binF, ↓X_tup, ↓X_lst, ↓X_lstF, ↓X_bOf, ↓X_and, ↓X_or, ↓X_not, ↓BoK_b, ↓X_eAnd, ↓X_eOr, ↓X_eNot, ↓X_eIf, ↓X_sl, ↓X_fz, ↓X_chain, ↓X_call, ↓X_meth, ↓X_rng1, ↓X_rng2, ↓X_rng3, ↓X_iA, ↓X_lr1, ↓X_lr2, ↓X_kget, ↓X_make, ↓X_get2, ↓X_get1, ↓X_eDic, ↓LsK_l, ↓X_idx, ↓X_VO, ↓X_BO, ↓X_BFO, ↓X_binO, ↓X_ixO, ↓MuK_own, ↓OwK_own, ↓X_mut, ↓Y_nx, ↓Y_pass, ↓Y_brk, ↓Y_cnt, ↓Y_retN, ↓Y_seq, ↓Y_asg, ↓Y_set, ↓Y_own, ↓Y_dat, ↓Y_dic, ↓Y_ret, ↓Y_expr, ↓Y_if, ↓Y_par, ↓Y_par3, ↓AuK_dat, ↓Y_aug, ↓Y_for, ↓Y_while, ↓Y_setIx, slotAt_eq, slotO_own, slotO_dic, g_N, g_two, g_three, g_T, g_L, g_nil, g_cons, Option.bind_some, Option.map_some, List.getElem?_cons_zero, List.getElem?_cons_succ, List.set_cons_zero, List.set_cons_succ, ↓X_W, ↓DrK_d, ↓WkK_d, ↓RwK_ok, ↓X_fzM, ↓X_prn, ↓X_prc, ↓X_disp, ↓X_vD, ↓X_vO, ↓X_vM, ↓Y_parK, asB_b, asI_i, eqD_ii, neD_ii, ltD_ii, leD_ii, gtD_ii, geD_ii, addD_ii, subD_ii, lenD_l, lenD_t, List.length_map, List.length_range, ↓lt_l0, ↓lt_ls, ↓le_l0, ↓le_ls, ↓ln_p, ↓eq_l0, ↓eq_ls, ↓sm_l, if_true, if_false, sumD_mapf]
      refine OpK.of (app_range (f := fun y : Nat => .int (lprod b L m x y)) (i := y) (by omega)) ?_
      simp only [↓Ep_K, ↓Wp_K, ↓IteK_t, ↓IteK_f, ↓OpK_some, ↓AndK_t, ↓RsK_ok, ↓nxtK_nx, ↓nxtK_rt, ↓nxtK_bk, ↓nxtK_ct, ↓nxtK_ex, ↓VK_dat, ↓VK_own, ↓VK_dic, ↓X_V, ↓X_ret, ↓X_opt, ↓X_bind, ↓X_C, ↓X_nil, ↓X_no, ↓X_some, ↓X_yes, ↓X_cons, ↓X_bin, ↓X_un, ↓X_ix, ↓X_B, ↓X_BF, ↓X_binF, ↓X_tup, ↓X_lst, ↓X_lstF, ↓X_bOf, ↓X_and, ↓X_or, ↓X_not, ↓BoK_b, ↓X_eAnd, ↓X_eOr, ↓X_eNot, ↓X_eIf, ↓X_sl, ↓X_fz, ↓X_chain, ↓X_call, ↓X_meth, ↓X_rng1, ↓X_rng2, ↓X_rng3, ↓X_iA, ↓X_lr1, ↓X_lr2, ↓X_kget, ↓X_make, ↓X_get2, ↓X_get1, ↓X_eDic, ↓LsK_l, ↓X_idx, ↓X_VO, ↓X_BO, ↓X_BFO, ↓X_binO, ↓X_ixO, ↓MuK_own, ↓OwK_own, ↓X_mut, ↓Y_nx, ↓Y_pass, ↓Y_brk, ↓Y_cnt, ↓Y_retN, ↓Y_seq, ↓Y_asg, ↓Y_set, ↓Y_own, ↓Y_dat, ↓Y_dic, ↓Y_ret, ↓Y_expr, ↓Y_if, ↓Y_par, ↓Y_par3, ↓AuK_dat, ↓Y_aug, ↓Y_for, ↓Y_while, ↓Y_setIx, slotAt_eq, slotO_own, slotO_dic, g_N, g_two, g_three, g_T, g_L, g_nil, g_cons, Option.bind_some, Option.map_some, List.getElem?_cons_zero, List.getElem?_cons_succ, List.set_cons_zero, List.set_cons_succ, ↓X_W, ↓DrK_d, ↓WkK_d, ↓RwK_ok, ↓X_fzM, ↓X_prn, ↓X_prc, ↓X_disp, ↓X_vD, ↓X_vO, ↓X_vM, ↓Y_parK, asB_b, asI_i, eqD_ii, neD_ii, ltD_ii, leD_ii, gtD_ii, geD_ii, addD_ii, subD_ii, lenD_l, lenD_t, List.length_map, List.length_range, ↓lt_l0, ↓lt_ls, ↓le_l0, ↓le_ls, ↓ln_p, ↓eq_l0, ↓eq_ls, ↓sm_l, if_true, if_false]
      exact ⟨(some _, some _, some _, _, _, _, _), .inl rfl⟩
    · have h1 : ((List.range n).map fun y : Nat => PyData.int (lsum b m x y)) = (List.range n).map fun c => .int (fadd n x c : Nat) := List.map_congr_left fun y hy => by rw [(hT x hx y (List.mem_range.mp hy)).1]
      have h2 : ((List.range n).map fun y : Nat => PyData.int (lprod b L m x y)) = (List.range n).map fun c => .int (fmul n x c : Nat) := List.map_congr_left fun y hy => by rw [(hT x hx y (List.mem_range.mp hy)).2]
      simp only [↓Ep_K, ↓Wp_K, ↓IteK_t, ↓IteK_f, ↓OpK_some, ↓AndK_t, ↓RsK_ok, ↓nxtK_nx, ↓nxtK_rt, ↓nxtK_bk, ↓nxtK_ct, ↓nxtK_ex, ↓VK_dat, ↓VK_own, ↓VK_dic, ↓X_V, ↓X_ret, ↓X_opt, ↓X_bind, ↓X_C, ↓X_nil, ↓X_no, ↓X_some, ↓X_yes, ↓X_cons, ↓X_bin, ↓X_un, ↓X_ix, ↓X_B, ↓X_BF, ↓X_binF, ↓X_tup, ↓X_lst, ↓X_lstF, ↓X_bOf, ↓X_and, ↓X_or, ↓X_not, ↓BoK_b, ↓X_eAnd, ↓X_eOr, ↓X_eNot, ↓X_eIf, ↓X_sl, ↓X_fz, ↓X_chain, ↓X_call, ↓X_meth, ↓X_rng1, ↓X_rng2, ↓X_rng3, ↓X_iA, ↓X_lr1, ↓X_lr2, ↓X_kget, ↓X_make, ↓X_get2, ↓X_get1, ↓X_eDic, ↓LsK_l, ↓X_idx, ↓X_VO, ↓X_BO, ↓X_BFO, ↓X_binO, ↓X_ixO, ↓MuK_own, ↓OwK_own, ↓X_mut, ↓Y_nx, ↓Y_pass, ↓Y_brk, ↓Y_cnt, ↓Y_retN, ↓Y_seq, ↓Y_asg, ↓Y_set, ↓Y_own, ↓Y_dat, ↓Y_dic, ↓Y_ret, ↓Y_expr, ↓Y_if, ↓Y_par, ↓Y_par3, ↓AuK_dat, ↓Y_aug, ↓Y_for, ↓Y_while, ↓Y_setIx, slotAt_eq, slotO_own, slotO_dic, g_N, g_two, g_three, g_T, g_L, g_nil, g_cons, Option.bind_some, Option.map_some, List.getElem?_cons_zero, List.getElem?_cons_succ, List.set_cons_zero, List.set_cons_succ, ↓X_W, ↓DrK_d, ↓WkK_d, ↓RwK_ok, ↓X_fzM, ↓X_prn, ↓X_prc, ↓X_disp, ↓X_vD, ↓X_vO, ↓X_vM, ↓Y_parK, asB_b, asI_i, eqD_ii, neD_ii, ltD_ii, leD_ii, gtD_ii, geD_ii, addD_ii, subD_ii, lenD_l, lenD_t, List.length_map, List.length_range, ↓lt_l0, ↓lt_ls, ↓le_l0, ↓le_ls, ↓ln_p, ↓eq_l0, ↓eq_ls, ↓sm_l, if_true, if_false, h1, h2]
      refine OpK.of (app_range (f := fun a => rowI n (fadd n a)) (i := x) (by omega)) ?_
      simp only [↓Ep_K, ↓Wp_K, ↓IteK_t, ↓IteK_f, ↓OpK_some, ↓AndK_t, ↓RsK_ok, ↓nxtK_nx, ↓nxtK_rt, ↓nxtK_bk, ↓nxtK_ct, ↓nxtK_ex, ↓VK_dat, ↓VK_own, ↓VK_dic, ↓X_V, ↓X_ret, ↓X_opt, ↓X_bind, ↓X_C, ↓X_nil, ↓X_no, ↓X_some, ↓X_yes, ↓X_cons, ↓X_bin, ↓X_un, ↓X_ix, ↓X_B, ↓X_BF, ↓X_binF, ↓X_tup, ↓X_lst, ↓X_lstF, ↓X_bOf, ↓X_and, ↓X_or, ↓X_not, ↓BoK_b, ↓X_eAnd, ↓X_eOr, ↓X_eNot, ↓X_eIf, ↓X_sl, ↓X_fz, ↓X_chain, ↓X_call, ↓X_meth, ↓X_rng1, ↓X_rng2, ↓X_rng3, ↓X_iA, ↓X_lr1, ↓X_lr2, ↓X_kget, ↓X_make, ↓X_get2, ↓X_get1, ↓X_eDic, ↓LsK_l, ↓X_idx, ↓X_VO, ↓X_BO, ↓X_BFO, ↓X_binO, ↓X_ixO, ↓MuK_own, ↓OwK_own, ↓X_mut, ↓Y_nx, ↓Y_pass, ↓Y_brk, ↓Y_cnt, ↓Y_retN, ↓Y_seq, ↓Y_asg, ↓Y_set, ↓Y_own, ↓Y_dat, ↓Y_dic, ↓Y_ret, ↓Y_expr, ↓Y_if, ↓Y_par, ↓Y_par3, ↓AuK_dat, ↓Y_aug, ↓Y_for, ↓Y_while, ↓Y_setIx, slotAt_eq, slotO_own, slotO_dic, g_N, g_two, g_three, g_T, g_L, g_nil, g_cons, Option.bind_some, Option.map_some, List.getElem?_cons_zero, List.getElem?_cons_succ, List.set_cons_zero, List.set_cons_succ, ↓X_W, ↓DrK_d, ↓WkK_d, ↓RwK_ok, ↓X_fzM, ↓X_prn, ↓X_prc, ↓X_disp, ↓X_vD, ↓X_vO, ↓X_vM, ↓Y_parK, asB_b, asI_i, eqD_ii, neD_ii, ltD_ii, leD_ii, gtD_ii, geD_ii, addD_ii, subD_ii, lenD_l, lenD_t, List.length_map, List.length_range, ↓lt_l0, ↓lt_ls, ↓le_l0, ↓le_ls, ↓ln_p, ↓eq_l0, ↓eq_ls, ↓sm_l, if_true, if_false]
      refine OpK.of (app_range (f := fun a => rowI n (fmul n a)) (i := x) (by omega)) ?_
      simp only [↓Ep_K, ↓Wp_K, ↓IteK_t, ↓IteK_f, ↓OpK_some, ↓AndK_t, ↓RsK_ok, ↓nxtK_nx, ↓nxtK_rt, ↓nxtK_bk, ↓nxtK_ct, ↓nxtK_ex, ↓VK_dat, ↓VK_own, ↓VK_dic, ↓X_V, ↓X_ret, ↓X_opt, ↓X_bind, ↓X_C, ↓X_nil, ↓X_no, ↓X_some, ↓X_yes, ↓X_cons, ↓X_bin, ↓X_un, ↓X_ix, ↓X_B, ↓X_BF, ↓X_binF, ↓X_tup, ↓X_lst, ↓X_lstF, ↓X_bOf, ↓X_and, ↓X_or, ↓X_not, ↓BoK_b, ↓X_eAnd, ↓X_eOr, ↓X_eNot, ↓X_eIf, ↓X_sl, ↓X_fz, ↓X_chain, ↓X_call, ↓X_meth, ↓X_rng1, ↓X_rng2, ↓X_rng3, ↓X_iA, ↓X_lr1, ↓X_lr2, ↓X_kget, ↓X_make, ↓X_get2, ↓X_get1, ↓X_eDic, ↓LsK_l, ↓X_idx, ↓X_VO, ↓X_BO, ↓X_BFO, ↓X_binO, ↓X_ixO, ↓MuK_own, ↓OwK_own, ↓X_mut, ↓Y_nx, ↓Y_pass, ↓Y_brk, ↓Y_cnt, ↓Y_retN, ↓Y_seq, ↓Y_asg, ↓Y_set, ↓Y_own, ↓Y_dat, ↓Y_dic, ↓Y_ret, ↓Y_expr, ↓Y_if, ↓Y_par, ↓Y_par3, ↓AuK_dat, ↓Y_aug, ↓Y_for, ↓Y_while, ↓Y_setIx, slotAt_eq, slotO_own, slotO_dic, g_N, g_two, g_three, g_T, g_L, g_nil, g_cons, Option.bind_some, Option.map_some, List.getElem?_cons_zero, List.getElem?_cons_succ, List.set_cons_zero, List.set_cons_succ, ↓X_W, ↓DrK_d, ↓WkK_d, ↓RwK_ok, ↓X_fzM, ↓X_prn, ↓X_prc, ↓X_disp, ↓X_vD, ↓X_vO, ↓X_vM, ↓Y_parK, asB_b, asI_i, eqD_ii, neD_ii, ltD_ii, leD_ii, gtD_ii, geD_ii, addD_ii, subD_ii, lenD_l, lenD_t, List.length_map, List.length_range, ↓lt_l0, ↓lt_ls, ↓le_l0, ↓le_ls, ↓ln_p, ↓eq_l0, ↓eq_ls, ↓sm_l, if_true, if_false]
      exact ⟨(some _, some _, some _, _, _, _, _, _, _, _), .inl rfl⟩
  · simp only [↓Ep_K, ↓Wp_K, ↓IteK_t, ↓IteK_f, ↓OpK_some, ↓AndK_t, ↓RsK_ok, ↓nxtK_nx, ↓nxtK_rt, ↓nxtK_bk, ↓nxtK_ct, ↓nxtK_ex, ↓VK_dat, ↓VK_own, ↓VK_dic, ↓X_V, ↓X_ret, ↓X_opt, ↓X_bind, ↓X_C, ↓X_nil, ↓X_no, ↓X_some, ↓X_yes, ↓X_cons, ↓X_bin, ↓X_un, ↓X_ix, ↓X_B, ↓X_BF, ↓X_binF, ↓X_tup, ↓X_lst, ↓X_lstF, ↓X_bOf, ↓X_and, ↓X_or, ↓X_not, ↓BoK_b, ↓X_eAnd, ↓X_eOr, ↓X_eNot, ↓X_eIf, ↓X_sl, ↓X_fz, ↓X_chain, ↓X_call, ↓X_meth, ↓X_rng1, ↓X_rng2, ↓X_rng3, ↓X_iA, ↓X_lr1, ↓X_lr2, ↓X_kget, ↓X_make, ↓X_get2, ↓X_get1, ↓X_eDic, ↓LsK_l, ↓X_idx, ↓X_VO, ↓X_BO, ↓X_BFO, ↓X_binO, ↓X_ixO, ↓MuK_own, ↓OwK_own, ↓X_mut, ↓Y_nx, ↓Y_pass, ↓Y_brk, ↓Y_cnt, ↓Y_retN, ↓Y_seq, ↓Y_asg, ↓Y_set, ↓Y_own, ↓Y_dat, ↓Y_dic, ↓Y_ret, ↓Y_expr, ↓Y_if, ↓Y_par, ↓Y_par3, ↓AuK_dat, ↓Y_aug, ↓Y_for, ↓Y_while, ↓Y_setIx, slotAt_eq, slotO_own, slotO_dic, g_N, g_two, g_three, g_T, g_L, g_nil, g_cons, Option.bind_some, Option.map_some, List.getElem?_cons_zero, List.getElem?_cons_succ, List.set_cons_zero, List.set_cons_succ, ↓X_W, ↓DrK_d, ↓WkK_d, ↓RwK_ok, ↓X_fzM, ↓X_prn, ↓X_prc, ↓X_disp, ↓X_vD, ↓X_vO, ↓X_vM, ↓Y_parK, asB_b, asI_i, eqD_ii, neD_ii, ltD_ii, leD_ii, gtD_ii, geD_ii, addD_ii, subD_ii, lenD_l, lenD_t, List.length_map, List.length_range, ↓lt_l0, ↓lt_ls, ↓le_l0, ↓le_ls, ↓ln_p, ↓eq_l0, ↓eq_ls, ↓sm_l, if_true, if_false]
    rfl
theorem law_power_eq {n x k : Nat} (hn : n ∈ sizesN) (hx : x < n) (hk : k < 1000000) : f__law_power [lawF n, .int x, .int k] = .ok (.int (fpow n x k : Nat)) := by
  refine RsK.eq (R_run2 ?_)
  show Wp b__law_power [.dat (lawF n), .dat (.int x), .dat (.int k), .un, .un] _
  unfold b__law_power
  simp only [↓Ep_K, ↓Wp_K, ↓IteK_t, ↓IteK_f, ↓OpK_some, ↓AndK_t, ↓RsK_ok, ↓nxtK_nx, ↓nxtK_rt, ↓nxtK_bk, ↓nxtK_ct, ↓nxtK_ex, ↓VK_dat, ↓VK_own, ↓VK_dic, ↓X_V, ↓X_ret, ↓X_opt, ↓X_bind, ↓X_C, ↓X_nil, ↓X_no, ↓X_some, ↓X_yes, ↓X_cons, ↓X_bin, ↓X_un, ↓X_ix, ↓X_B, ↓X_BF, ↓X_binF, ↓X_tup, ↓X_lst, ↓X_lstF, ↓X_bOf, ↓X_and, ↓X_or, ↓X_not, ↓BoK_b, ↓X_eAnd, ↓X_eOr, ↓X_eNot, ↓X_eIf, ↓X_sl, ↓X_fz, ↓X_chain, ↓X_call, ↓X_meth, ↓X_rng1, ↓X_rng2, ↓X_rng3, ↓X_iA, ↓X_lr1, ↓X_lr2, ↓X_kget, ↓X_make, ↓X_get2, ↓X_get1, ↓X_eDic, ↓LsK_l, ↓X_idx, ↓X_VO, ↓X_BO, ↓X_BFO, ↓X_binO, ↓X_ixO, ↓MuK_own, ↓OwK_own, ↓X_mut, ↓Y_nx, ↓Y_pass, ↓Y_brk, ↓Y_cnt, ↓Y_retN, ↓Y_seq, ↓Y_asg, ↓Y_set, ↓Y_own, ↓Y_dat, ↓Y_dic, ↓Y_ret, ↓Y_expr, ↓Y_if, ↓Y_par, ↓Y_par3, ↓AuK_dat, ↓Y_aug, ↓Y_for, ↓Y_while, ↓Y_setIx, slotAt_eq, slotO_own, slotO_dic, g_N, g_two, g_three, g_T, g_L, g_nil, g_cons, Option.bind_some, Option.map_some, List.getElem?_cons_zero, List.getElem?_cons_succ, List.set_cons_zero, List.set_cons_succ, ↓X_W, ↓DrK_d, ↓WkK_d, ↓RwK_ok, ↓X_fzM, ↓X_prn, ↓X_prc, ↓X_disp, ↓X_vD, ↓X_vO, ↓X_vM, ↓Y_parK, asB_b, asI_i, eqD_ii, neD_ii, ltD_ii, leD_ii, gtD_ii, geD_ii, addD_ii, subD_ii, lenD_l, lenD_t, List.length_map, List.length_range, ↓lt_l0, ↓lt_ls, ↓le_l0, ↓le_ls, ↓ln_p, ↓eq_l0, ↓eq_ls, ↓sm_l, if_true, if_false, rng1_ok (n := k) (by omega), list_range]
  refine W_forN k (st := fun i (c : Option D) => [.dat (lawF n), .dat (.int x), .dat (.int k), .dat (.int (fpow n x i : Nat)), gv c]) none (fun i hi c => ?_) (fun c => ?_)
  · refine ⟨_, rfl, ?_⟩
    simp only [↓Ep_K, ↓Wp_K, ↓IteK_t, ↓IteK_f, ↓OpK_some, ↓AndK_t, ↓RsK_ok, ↓nxtK_nx, ↓nxtK_rt, ↓nxtK_bk, ↓nxtK_ct, ↓nxtK_ex, ↓VK_dat, ↓VK_own, ↓VK_dic, ↓X_V, ↓X_ret, ↓X_opt, ↓X_bind, ↓X_C, ↓X_nil, ↓X_no, ↓X_some, ↓X_yes, ↓X_cons, ↓X_bin, ↓X_un, ↓X_ix, ↓X_B, ↓X_BF, ↓X_binF, ↓X_tup, ↓X_lst, ↓X_lstF, ↓X_bOf, ↓X_and, ↓X_or, ↓X_not, ↓BoK_b, ↓X_eAnd, ↓X_eOr, ↓X_eNot, ↓X_eIf, ↓X_sl, ↓X_fz, ↓X_chain, ↓X_call, ↓X_meth, ↓X_rng1, ↓X_rng2, ↓X_rng3, ↓X_iA, ↓X_lr1, ↓X_lr2, ↓X_kget, ↓X_make, ↓X_get2, ↓X_get1, ↓X_eDic, ↓LsK_l, ↓X_idx, ↓X_VO, ↓X_BO, ↓X_BFO, ↓X_binO, ↓X_ixO, ↓MuK_own, ↓OwK_own, ↓X_mut, ↓Y_nx, ↓Y_pass, ↓Y_brk, ↓Y_cnt, ↓Y_retN, ↓Y_seq, ↓Y_asg, ↓Y_set, ↓Y_own, ↓Y_dat, ↓Y_dic, ↓Y_ret, ↓Y_expr, ↓Y_if, ↓Y_par, ↓Y_par3, ↓AuK_dat, ↓Y_aug, ↓Y_for, ↓Y_while, ↓Y_setIx, slotAt_eq, slotO_own, slotO_dic, g_N, g_two, g_three, g_T, g_L, g_nil, g_cons, Option.bind_some, Option.map_some, List.getElem?_cons_zero, List.getElem?_cons_succ, List.set_cons_zero, List.set_cons_succ, ↓X_W, ↓DrK_d, ↓WkK_d, ↓RwK_ok, ↓X_fzM, ↓X_prn, ↓X_prc, ↓X_disp, ↓X_vD, ↓X_vO, ↓X_vM, ↓Y_parK, asB_b, asI_i, eqD_ii, neD_ii, ltD_ii, leD_ii, gtD_ii, geD_ii, addD_ii, subD_ii, lenD_l, lenD_t, List.length_map, List.length_range, ↓lt_l0, ↓lt_ls, ↓le_l0, ↓le_ls, ↓ln_p, ↓eq_l0, ↓eq_ls, ↓sm_l, if_true, if_false, lawF_1, ix_tab (fpow_lt hn hx i), ix_row hx]
    exact ⟨some _, .inl rfl⟩
  · simp only [↓Ep_K, ↓Wp_K, ↓IteK_t, ↓IteK_f, ↓OpK_some, ↓AndK_t, ↓RsK_ok, ↓nxtK_nx, ↓nxtK_rt, ↓nxtK_bk, ↓nxtK_ct, ↓nxtK_ex, ↓VK_dat, ↓VK_own, ↓VK_dic, ↓X_V, ↓X_ret, ↓X_opt, ↓X_bind, ↓X_C, ↓X_nil, ↓X_no, ↓X_some, ↓X_yes, ↓X_cons, ↓X_bin, ↓X_un, ↓X_ix, ↓X_B, ↓X_BF, ↓X_binF, ↓X_tup, ↓X_lst, ↓X_lstF, ↓X_bOf, ↓X_and, ↓X_or, ↓X_not, ↓BoK_b, ↓X_eAnd, ↓X_eOr, ↓X_eNot, ↓X_eIf, ↓X_sl, ↓X_fz, ↓X_chain, ↓X_call, ↓X_meth, ↓X_rng1, ↓X_rng2, ↓X_rng3, ↓X_iA, ↓X_lr1, ↓X_lr2, ↓X_kget, ↓X_make, ↓X_get2, ↓X_get1, ↓X_eDic, ↓LsK_l, ↓X_idx, ↓X_VO, ↓X_BO, ↓X_BFO, ↓X_binO, ↓X_ixO, ↓MuK_own, ↓OwK_own, ↓X_mut, ↓Y_nx, ↓Y_pass, ↓Y_brk, ↓Y_cnt, ↓Y_retN, ↓Y_seq, ↓Y_asg, ↓Y_set, ↓Y_own, ↓Y_dat, ↓Y_dic, ↓Y_ret, ↓Y_expr, ↓Y_if, ↓Y_par, ↓Y_par3, ↓AuK_dat, ↓Y_aug, ↓Y_for, ↓Y_while, ↓Y_setIx, slotAt_eq, slotO_own, slotO_dic, g_N, g_two, g_three, g_T, g_L, g_nil, g_cons, Option.bind_some, Option.map_some, List.getElem?_cons_zero, List.getElem?_cons_succ, List.set_cons_zero, List.set_cons_succ, ↓X_W, ↓DrK_d, ↓WkK_d, ↓RwK_ok, ↓X_fzM, ↓X_prn, ↓X_prc, ↓X_disp, ↓X_vD, ↓X_vO, ↓X_vM, ↓Y_parK, asB_b, asI_i, eqD_ii, neD_ii, ltD_ii, leD_ii, gtD_ii, geD_ii, addD_ii, subD_ii, lenD_l, lenD_t, List.length_map, List.length_range, ↓lt_l0, ↓lt_ls, ↓le_l0, ↓le_ls, ↓ln_p, ↓eq_l0, ↓eq_ls, ↓sm_l, if_true, if_false]
theorem law_neg_eq {n x : Nat} (hn : n ∈ sizesN) (hx : x < n) : f__law_neg [lawF n, .int x] = .ok (.int (fneg n x : Nat)) := by
  refine RsK.eq (R_run2 ?_)
  show Wp b__law_neg [.dat (lawF n), .dat (.int x)] _
  unfold b__law_neg
  obtain ⟨h1, h2, h3⟩ := neg_facts n hn x hx
  simp only [↓Ep_K, ↓Wp_K, ↓IteK_t, ↓IteK_f, ↓OpK_some, ↓AndK_t, ↓RsK_ok, ↓nxtK_nx, ↓nxtK_rt, ↓nxtK_bk, ↓nxtK_ct, ↓nxtK_ex, ↓VK_dat, ↓VK_own, ↓VK_dic, ↓X_V, ↓X_ret, ↓X_opt, ↓X_bind, ↓X_C, ↓X_nil, ↓X_no, ↓X_some, ↓X_yes, ↓X_cons, ↓X_bin, ↓X_un, ↓X_ix, ↓X_B, ↓X_BF, ↓X_binF, ↓X_tup, ↓X_lst, ↓X_lstF, ↓X_bOf, ↓X_and, ↓X_or, ↓X_not, ↓BoK_b, ↓X_eAnd, ↓X_eOr, ↓X_eNot, ↓X_eIf, ↓X_sl, ↓X_fz, ↓X_chain, ↓X_call, ↓X_meth, ↓X_rng1, ↓X_rng2, ↓X_rng3, ↓X_iA, ↓X_lr1, ↓X_lr2, ↓X_kget, ↓X_make, ↓X_get2, ↓X_get1, ↓X_eDic, ↓LsK_l, ↓X_idx, ↓X_VO, ↓X_BO, ↓X_BFO, ↓X_binO, ↓X_ixO, ↓MuK_own, ↓OwK_own, ↓X_mut, ↓Y_nx, ↓Y_pass, ↓Y_brk, ↓Y_cnt, ↓Y_retN, ↓Y_seq, ↓Y_asg, ↓Y_set, ↓Y_own, ↓Y_dat, ↓Y_dic, ↓Y_ret, ↓Y_expr, ↓Y_if, ↓Y_par, ↓Y_par3, ↓AuK_dat, ↓Y_aug, ↓Y_for, ↓Y_while, ↓Y_setIx, slotAt_eq, slotO_own, slotO_dic, g_N, g_two, g_three, g_T, g_L, g_nil, g_cons, Option.bind_some, Option.map_some, List.getElem?_cons_zero, List.getElem?_cons_succ, List.set_cons_zero, List.set_cons_succ, ↓X_W, ↓DrK_d, ↓WkK_d, ↓RwK_ok, ↓X_fzM, ↓X_prn, ↓X_prc, ↓X_disp, ↓X_vD, ↓X_vO, ↓X_vM, ↓Y_parK, asB_b, asI_i, eqD_ii, neD_ii, ltD_ii, leD_ii, gtD_ii, geD_ii, addD_ii, subD_ii, lenD_l, lenD_t, List.length_map, List.length_range, ↓lt_l0, ↓lt_ls, ↓le_l0, ↓le_ls, ↓ln_p, ↓eq_l0, ↓eq_ls, ↓sm_l, if_true, if_false, lawF_0, ix_tab hx]
  refine ⟨_, rfl, ?_⟩
  simp only [↓Ep_K, ↓Wp_K, ↓IteK_t, ↓IteK_f, ↓OpK_some, ↓AndK_t, ↓RsK_ok, ↓nxtK_nx, ↓nxtK_rt, ↓nxtK_bk, ↓nxtK_ct, ↓nxtK_ex, ↓VK_dat, ↓VK_own, ↓VK_dic, ↓X_V, ↓X_ret, ↓X_opt, ↓X_bind, ↓X_C, ↓X_nil, ↓X_no, ↓X_some, ↓X_yes, ↓X_cons, ↓X_bin, ↓X_un, ↓X_ix, ↓X_B, ↓X_BF, ↓X_binF, ↓X_tup, ↓X_lst, ↓X_lstF, ↓X_bOf, ↓X_and, ↓X_or, ↓X_not, ↓BoK_b, ↓X_eAnd, ↓X_eOr, ↓X_eNot, ↓X_eIf, ↓X_sl, ↓X_fz, ↓X_chain, ↓X_call, ↓X_meth, ↓X_rng1, ↓X_rng2, ↓X_rng3, ↓X_iA, ↓X_lr1, ↓X_lr2, ↓X_kget, ↓X_make, ↓X_get2, ↓X_get1, ↓X_eDic, ↓LsK_l, ↓X_idx, ↓X_VO, ↓X_BO, ↓X_BFO, ↓X_binO, ↓X_ixO, ↓MuK_own, ↓OwK_own, ↓X_mut, ↓Y_nx, ↓Y_pass, ↓Y_brk, ↓Y_cnt, ↓Y_retN, ↓Y_seq, ↓Y_asg, ↓Y_set, ↓Y_own, ↓Y_dat, ↓Y_dic, ↓Y_ret, ↓Y_expr, ↓Y_if, ↓Y_par, ↓Y_par3, ↓AuK_dat, ↓Y_aug, ↓Y_for, ↓Y_while, ↓Y_setIx, slotAt_eq, slotO_own, slotO_dic, g_N, g_two, g_three, g_T, g_L, g_nil, g_cons, Option.bind_some, Option.map_some, List.getElem?_cons_zero, List.getElem?_cons_succ, List.set_cons_zero, List.set_cons_succ, ↓X_W, ↓DrK_d, ↓WkK_d, ↓RwK_ok, ↓X_fzM, ↓X_prn, ↓X_prc, ↓X_disp, ↓X_vD, ↓X_vO, ↓X_vM, ↓Y_parK, asB_b, asI_i, eqD_ii, neD_ii, ltD_ii, leD_ii, gtD_ii, geD_ii, addD_ii, subD_ii, lenD_l, lenD_t, List.length_map, List.length_range, ↓lt_l0, ↓lt_ls, ↓le_l0, ↓le_ls, ↓ln_p, ↓eq_l0, ↓eq_ls, ↓sm_l, if_true, if_false]
  exact OpK.of (idx_first (v := 0) h1 h2 h3) rfl
def fdotL (n : Nat) (xs ys : List Nat) (k : Nat) : Nat := (List.range k).foldl (fun s k => fadd n s (fmul n (xs.getD k 0) (ys.getD k 0))) 0
theorem fdotL_lt {n : Nat} (hn : n ∈ sizesN) {xs ys : List Nat} (hx : ∀ z ∈ xs, z < n) (hy : ∀ z ∈ ys, z < n) (hl : xs.length ≤ ys.length) : ∀ k ≤ xs.length, fdotL n xs ys k < n
  | 0, _ => by have := (size_facts n hn).1; show 0 < n; omega
  | k + 1, hk => by
    unfold fdotL
    rw [List.range_succ, List.foldl_append]
    exact (add_facts n hn _ (fdotL_lt hn hx hy hl k (by omega)) _ (mul_facts n hn _ (getD_lt hx (by omega)) _ (getD_lt hy (by omega))).2.1).2.1
theorem fdotL_eq {n : Nat} {xs ys : List Nat} : fdotL n xs ys xs.length = fdot n xs ys := by
  unfold fdotL fdot ftot
  rw [List.foldl_map]
theorem law_dot_eq {n : Nat} {a b : D} {xs ys : List Nat} (hn : n ∈ sizesN) (ha : Row a xs) (hb : Row b ys) (hx : ∀ z ∈ xs, z < n) (hy : ∀ z ∈ ys, z < n) (hl : xs.length ≤ ys.length) (hs : xs.length ≤ 1000000) : f__law_dot [lawF n, a, b] = .ok (.int (fdot n xs ys : Nat)) := by
  refine RsK.eq (R_run2 ?_)
  show Wp b__law_dot [.dat (lawF n), .dat a, .dat b, .un, .un] _
  unfold b__law_dot
  simp only [↓Ep_K, ↓Wp_K, ↓IteK_t, ↓IteK_f, ↓OpK_some, ↓AndK_t, ↓RsK_ok, ↓nxtK_nx, ↓nxtK_rt, ↓nxtK_bk, ↓nxtK_ct, ↓nxtK_ex, ↓VK_dat, ↓VK_own, ↓VK_dic, ↓X_V, ↓X_ret, ↓X_opt, ↓X_bind, ↓X_C, ↓X_nil, ↓X_no, ↓X_some, ↓X_yes, ↓X_cons, ↓X_bin, ↓X_un, ↓X_ix, ↓X_B, ↓X_BF, ↓X_binF, ↓X_tup, ↓X_lst, ↓X_lstF, ↓X_bOf, ↓X_and, ↓X_or, ↓X_not, ↓BoK_b, ↓X_eAnd, ↓X_eOr, ↓X_eNot, ↓X_eIf, ↓X_sl, ↓X_fz, ↓X_chain, ↓X_call, ↓X_meth, ↓X_rng1, ↓X_rng2, ↓X_rng3, ↓X_iA, ↓X_lr1, ↓X_lr2, ↓X_kget, ↓X_make, ↓X_get2, ↓X_get1, ↓X_eDic, ↓LsK_l, ↓X_idx, ↓X_VO, ↓X_BO, ↓X_BFO, ↓X_binO, ↓X_ixO, ↓MuK_own, ↓OwK_own, ↓X_mut, ↓Y_nx, ↓Y_pass, ↓Y_brk, ↓Y_cnt, ↓Y_retN, ↓Y_seq, ↓Y_asg, ↓Y_set, ↓Y_own, ↓Y_dat, ↓Y_dic, ↓Y_ret, ↓Y_expr, ↓Y_if, ↓Y_par, ↓Y_par3, ↓AuK_dat, ↓Y_aug, ↓Y_for, ↓Y_while, ↓Y_setIx, slotAt_eq, slotO_own, slotO_dic, g_N, g_two, g_three, g_T, g_L, g_nil, g_cons, Option.bind_some, Option.map_some, List.getElem?_cons_zero, List.getElem?_cons_succ, List.set_cons_zero, List.set_cons_succ, ↓X_W, ↓DrK_d, ↓WkK_d, ↓RwK_ok, ↓X_fzM, ↓X_prn, ↓X_prc, ↓X_disp, ↓X_vD, ↓X_vO, ↓X_vM, ↓Y_parK, asB_b, asI_i, eqD_ii, neD_ii, ltD_ii, leD_ii, gtD_ii, geD_ii, addD_ii, subD_ii, lenD_l, lenD_t, List.length_map, List.length_range, ↓lt_l0, ↓lt_ls, ↓le_l0, ↓le_ls, ↓ln_p, ↓eq_l0, ↓eq_ls, ↓sm_l, if_true, if_false, ha.len, rng1_ok (n := xs.length) (by omega), list_range]
  refine W_forN xs.length (st := fun i (c : Option D) => [.dat (lawF n), .dat a, .dat b, .dat (.int (fdotL n xs ys i : Nat)), gv c]) none (fun i hi c => ?_) (fun c => ?_)
  · refine ⟨_, rfl, ?_⟩
    have h1 := getD_lt hx hi
    have h2 := getD_lt hy (show i < ys.length by omega)
    have h3 := fdotL_lt hn hx hy hl i (by omega)
    have h4 := (mul_facts n hn _ h1 _ h2).2.1
    simp only [↓Ep_K, ↓Wp_K, ↓IteK_t, ↓IteK_f, ↓OpK_some, ↓AndK_t, ↓RsK_ok, ↓nxtK_nx, ↓nxtK_rt, ↓nxtK_bk, ↓nxtK_ct, ↓nxtK_ex, ↓VK_dat, ↓VK_own, ↓VK_dic, ↓X_V, ↓X_ret, ↓X_opt, ↓X_bind, ↓X_C, ↓X_nil, ↓X_no, ↓X_some, ↓X_yes, ↓X_cons, ↓X_bin, ↓X_un, ↓X_ix, ↓X_B, ↓X_BF, ↓X_binF, ↓X_tup, ↓X_lst, ↓X_lstF, ↓X_bOf, ↓X_and, ↓X_or, ↓X_not, ↓BoK_b, ↓X_eAnd, ↓X_eOr, ↓X_eNot, ↓X_eIf, ↓X_sl, ↓X_fz, ↓X_chain, ↓X_call, ↓X_meth, ↓X_rng1, ↓X_rng2, ↓X_rng3, ↓X_iA, ↓X_lr1, ↓X_lr2, ↓X_kget, ↓X_make, ↓X_get2, ↓X_get1, ↓X_eDic, ↓LsK_l, ↓X_idx, ↓X_VO, ↓X_BO, ↓X_BFO, ↓X_binO, ↓X_ixO, ↓MuK_own, ↓OwK_own, ↓X_mut, ↓Y_nx, ↓Y_pass, ↓Y_brk, ↓Y_cnt, ↓Y_retN, ↓Y_seq, ↓Y_asg, ↓Y_set, ↓Y_own, ↓Y_dat, ↓Y_dic, ↓Y_ret, ↓Y_expr, ↓Y_if, ↓Y_par, ↓Y_par3, ↓AuK_dat, ↓Y_aug, ↓Y_for, ↓Y_while, ↓Y_setIx, slotAt_eq, slotO_own, slotO_dic, g_N, g_two, g_three, g_T, g_L, g_nil, g_cons, Option.bind_some, Option.map_some, List.getElem?_cons_zero, List.getElem?_cons_succ, List.set_cons_zero, List.set_cons_succ, ↓X_W, ↓DrK_d, ↓WkK_d, ↓RwK_ok, ↓X_fzM, ↓X_prn, ↓X_prc, ↓X_disp, ↓X_vD, ↓X_vO, ↓X_vM, ↓Y_parK, asB_b, asI_i, eqD_ii, neD_ii, ltD_ii, leD_ii, gtD_ii, geD_ii, addD_ii, subD_ii, lenD_l, lenD_t, List.length_map, List.length_range, ↓lt_l0, ↓lt_ls, ↓le_l0, ↓le_ls, ↓ln_p, ↓eq_l0, ↓eq_ls, ↓sm_l, if_true, if_false, nI_eq, lawF_0, lawF_1, ha.ix hi, hb.ix (show i < ys.length by omega), ix_tab h1, ix_row h2, ix_tab h3, ix_row h4]
    have e : fdotL n xs ys (i + 1) = fadd n (fdotL n xs ys i) (fmul n (xs.getD i 0) (ys.getD i 0)) := by
      unfold fdotL
      rw [List.range_succ, List.foldl_append]
      rfl
    rw [e]
    exact ⟨some _, .inl rfl⟩
  · simp only [↓Ep_K, ↓Wp_K, ↓IteK_t, ↓IteK_f, ↓OpK_some, ↓AndK_t, ↓RsK_ok, ↓nxtK_nx, ↓nxtK_rt, ↓nxtK_bk, ↓nxtK_ct, ↓nxtK_ex, ↓VK_dat, ↓VK_own, ↓VK_dic, ↓X_V, ↓X_ret, ↓X_opt, ↓X_bind, ↓X_C, ↓X_nil, ↓X_no, ↓X_some, ↓X_yes, ↓X_cons, ↓X_bin, ↓X_un, ↓X_ix, ↓X_B, ↓X_BF, ↓X_binF, ↓X_tup, ↓X_lst, ↓X_lstF, ↓X_bOf, ↓X_and, ↓X_or, ↓X_not, ↓BoK_b, ↓X_eAnd, ↓X_eOr, ↓X_eNot, ↓X_eIf, ↓X_sl, ↓X_fz, ↓X_chain, ↓X_call, ↓X_meth, ↓X_rng1, ↓X_rng2, ↓X_rng3, ↓X_iA, ↓X_lr1, ↓X_lr2, ↓X_kget, ↓X_make, ↓X_get2, ↓X_get1, ↓X_eDic, ↓LsK_l, ↓X_idx, ↓X_VO, ↓X_BO, ↓X_BFO, ↓X_binO, ↓X_ixO, ↓MuK_own, ↓OwK_own, ↓X_mut, ↓Y_nx, ↓Y_pass, ↓Y_brk, ↓Y_cnt, ↓Y_retN, ↓Y_seq, ↓Y_asg, ↓Y_set, ↓Y_own, ↓Y_dat, ↓Y_dic, ↓Y_ret, ↓Y_expr, ↓Y_if, ↓Y_par, ↓Y_par3, ↓AuK_dat, ↓Y_aug, ↓Y_for, ↓Y_while, ↓Y_setIx, slotAt_eq, slotO_own, slotO_dic, g_N, g_two, g_three, g_T, g_L, g_nil, g_cons, Option.bind_some, Option.map_some, List.getElem?_cons_zero, List.getElem?_cons_succ, List.set_cons_zero, List.set_cons_succ, ↓X_W, ↓DrK_d, ↓WkK_d, ↓RwK_ok, ↓X_fzM, ↓X_prn, ↓X_prc, ↓X_disp, ↓X_vD, ↓X_vO, ↓X_vM, ↓Y_parK, asB_b, asI_i, eqD_ii, neD_ii, ltD_ii, leD_ii, gtD_ii, geD_ii, addD_ii, subD_ii, lenD_l, lenD_t, List.length_map, List.length_range, ↓lt_l0, ↓lt_ls, ↓le_l0, ↓le_ls, ↓ln_p, ↓eq_l0, ↓eq_ls, ↓sm_l, if_true, if_false, fdotL_eq]
end FW

namespace FW
open PySem PySem.Spec L2
open PyProof.Rows hiding St
/-! ### the law -/
theorem pick_ok {α : Type} (enc : α → D) {a : Addr} {k : Int} {ns : List Int} {d : D} {xs : List α} {P : D → Int → List Int → Prop} (hd : d = .list (xs.map enc) ∨ d = .tuple (xs.map enc)) (h : DrawOk ns) (hne : xs ≠ []) (hl : xs.length ≤ 1000000)
    (q : ∀ x ∈ xs, ∀ k' ns', DrawOk ns' → P (enc x) k' ns') : RwK (f__law_pick a k ns [d]) P := by
  refine R_runW ?_
  show Wp b__law_pick [.drw a k ns, .dat d] _
  unfold b__law_pick
  have hlen : lenD [d] = some (.int (xs.length : Nat)) := by
    rcases hd with rfl | rfl
    · rw [lenD_l, List.length_map]
    · rw [lenD_t, List.length_map]
  have hp : 0 < xs.length := List.length_pos_iff.mpr hne
  simp only [↓Ep_K, ↓Wp_K, ↓IteK_t, ↓IteK_f, ↓OpK_some, ↓AndK_t, ↓RsK_ok, ↓nxtK_nx, ↓nxtK_rt, ↓nxtK_bk, ↓nxtK_ct, ↓nxtK_ex, ↓VK_dat, ↓VK_own, ↓VK_dic, ↓X_V, ↓X_ret, ↓X_opt, ↓X_bind, ↓X_C, ↓X_nil, ↓X_no, ↓X_some, ↓X_yes, ↓X_cons, ↓X_bin, ↓X_un, ↓X_ix, ↓X_B, ↓X_BF, ↓X_binF, ↓X_tup, ↓X_lst, ↓X_lstF, ↓X_bOf, ↓X_and, ↓X_or, ↓X_not, ↓BoK_b, ↓X_eAnd, ↓X_eOr, ↓X_eNot, ↓X_eIf, ↓X_sl, ↓X_fz, ↓X_chain, ↓X_call, ↓X_meth, ↓X_rng1, ↓X_rng2, ↓X_rng3, ↓X_iA, ↓X_lr1, ↓X_lr2, ↓X_kget, ↓X_make, ↓X_get2, ↓X_get1, ↓X_eDic, ↓LsK_l, ↓X_idx, ↓X_VO, ↓X_BO, ↓X_BFO, ↓X_binO, ↓X_ixO, ↓MuK_own, ↓OwK_own, ↓X_mut, ↓Y_nx, ↓Y_pass, ↓Y_brk, ↓Y_cnt, ↓Y_retN, ↓Y_seq, ↓Y_asg, ↓Y_set, ↓Y_own, ↓Y_dat, ↓Y_dic, ↓Y_ret, ↓Y_expr, ↓Y_if, ↓Y_par, ↓Y_par3, ↓AuK_dat, ↓Y_aug, ↓Y_for, ↓Y_while, ↓Y_setIx, slotAt_eq, slotO_own, slotO_dic, g_N, g_two, g_three, g_T, g_L, g_nil, g_cons, Option.bind_some, Option.map_some, List.getElem?_cons_zero, List.getElem?_cons_succ, List.set_cons_zero, List.set_cons_succ, ↓X_W, ↓DrK_d, ↓WkK_d, ↓RwK_ok, ↓X_fzM, ↓X_prn, ↓X_prc, ↓X_disp, ↓X_vD, ↓X_vO, ↓X_vM, ↓Y_parK, asB_b, asI_i, eqD_ii, neD_ii, ltD_ii, leD_ii, gtD_ii, geD_ii, addD_ii, subD_ii, lenD_l, lenD_t, List.length_map, List.length_range, ↓lt_l0, ↓lt_ls, ↓le_l0, ↓le_ls, ↓ln_p, ↓eq_l0, ↓eq_ls, ↓sm_l, if_true, if_false, decide_true, decide_false, Bool.not_true, Bool.not_false, hlen]
  refine RwK_take (n := xs.length) h (by omega) fun r k' ns' hn' hr _ => ?_
  have hr := hr hp
  have hix : ixD d (.int (r : Nat)) = some (enc xs[r]) := by
    have e : (xs.map enc)[r]? = some (enc xs[r]) := by rw [List.getElem?_map, List.getElem?_eq_getElem hr]; rfl
    rcases hd with rfl | rfl
    · exact ixD_l e
    · exact ixD_t e
  simp only [↓Ep_K, ↓Wp_K, ↓IteK_t, ↓IteK_f, ↓OpK_some, ↓AndK_t, ↓RsK_ok, ↓nxtK_nx, ↓nxtK_rt, ↓nxtK_bk, ↓nxtK_ct, ↓nxtK_ex, ↓VK_dat, ↓VK_own, ↓VK_dic, ↓X_V, ↓X_ret, ↓X_opt, ↓X_bind, ↓X_C, ↓X_nil, ↓X_no, ↓X_some, ↓X_yes, ↓X_cons, ↓X_bin, ↓X_un, ↓X_ix, ↓X_B, ↓X_BF, ↓X_binF, ↓X_tup, ↓X_lst, ↓X_lstF, ↓X_bOf, ↓X_and, ↓X_or, ↓X_not, ↓BoK_b, ↓X_eAnd, ↓X_eOr, ↓X_eNot, ↓X_eIf, ↓X_sl, ↓X_fz, ↓X_chain, ↓X_call, ↓X_meth, ↓X_rng1, ↓X_rng2, ↓X_rng3, ↓X_iA, ↓X_lr1, ↓X_lr2, ↓X_kget, ↓X_make, ↓X_get2, ↓X_get1, ↓X_eDic, ↓LsK_l, ↓X_idx, ↓X_VO, ↓X_BO, ↓X_BFO, ↓X_binO, ↓X_ixO, ↓MuK_own, ↓OwK_own, ↓X_mut, ↓Y_nx, ↓Y_pass, ↓Y_brk, ↓Y_cnt, ↓Y_retN, ↓Y_seq, ↓Y_asg, ↓Y_set, ↓Y_own, ↓Y_dat, ↓Y_dic, ↓Y_ret, ↓Y_expr, ↓Y_if, ↓Y_par, ↓Y_par3, ↓AuK_dat, ↓Y_aug, ↓Y_for, ↓Y_while, ↓Y_setIx, slotAt_eq, slotO_own, slotO_dic, g_N, g_two, g_three, g_T, g_L, g_nil, g_cons, Option.bind_some, Option.map_some, List.getElem?_cons_zero, List.getElem?_cons_succ, List.set_cons_zero, List.set_cons_succ, ↓X_W, ↓DrK_d, ↓WkK_d, ↓RwK_ok, ↓X_fzM, ↓X_prn, ↓X_prc, ↓X_disp, ↓X_vD, ↓X_vO, ↓X_vM, ↓Y_parK, asB_b, asI_i, eqD_ii, neD_ii, ltD_ii, leD_ii, gtD_ii, geD_ii, addD_ii, subD_ii, lenD_l, lenD_t, List.length_map, List.length_range, ↓lt_l0, ↓lt_ls, ↓le_l0, ↓le_ls, ↓ln_p, ↓eq_l0, ↓eq_ls, ↓sm_l, if_true, if_false, decide_true, decide_false, Bool.not_true, Bool.not_false, hix]
  exact ⟨_, _, _, _, rfl, q _ (List.getElem_mem _) k' ns' hn'⟩
theorem obF {n : Nat} : obD "Field" fNs (fieldDs n) = fieldD n := rfl
theorem ob_plus {n : Nat} : isOb "Field" "plus" (fieldD n) = true := rfl
theorem ob_times {n : Nat} : isOb "Field" "times" (fieldD n) = true := rfl
theorem ob_minus {n : Nat} : isOb "Field" "minus" (fieldD n) = true := rfl
theorem ob_over {n : Nat} : isOb "Field" "over" (fieldD n) = true := rfl
theorem ob_negative {n : Nat} : isOb "Field" "negative" (fieldD n) = true := rfl
theorem ob_inverse {n : Nat} : isOb "Field" "inverse" (fieldD n) = true := rfl
theorem ob_power {n : Nat} : isOb "Field" "power" (fieldD n) = true := rfl
theorem ob_order {n : Nat} : isOb "Field" "order" (fieldD n) = true := rfl
theorem ob_generators {n : Nat} : isOb "Field" "generators" (fieldD n) = true := rfl
theorem ob_log {n : Nat} : isOb "Field" "log" (fieldD n) = true := rfl
theorem ob_total {n : Nat} : isOb "Field" "total" (fieldD n) = true := rfl
theorem ob_dot {n : Nat} : isOb "Field" "dot" (fieldD n) = true := rfl
theorem neD_row {n : Nat} {g : Nat → Nat} : neD (.list ((List.range n).map fun c => .int (g c : Nat))) (rowI n g) = some (.bool false) := by
  have e := neD_lN ((List.range n).map g) ((List.range n).map g)
  rw [List.map_map] at e
  refine e.trans ?_
  simp
theorem neD_row2 {n : Nat} {g : Nat → Nat} : neD (.list ((List.range n).map fun c => .int (g c : Nat))) (.list ((List.range n).map fun c => .int (g c : Nat))) = some (.bool false) := neD_row
theorem neD_i0 {i : Int} : neD (.int i) (.int i) = some (.bool false) := by
  rw [neD_ii]
  simp
theorem LsK_row {n : Nat} {g : Nat → Nat} {P : List D → Prop} : LsK (rowI n g) P = P ((List.range n).map fun c => .int (g c : Nat)) := LsK_l
theorem neg_idx {n x : Nat} (hn : n ∈ sizesN) (hx : x < n) : idxD (.list ((List.range n).map fun c => .int (fadd n x c : Nat))) (.int 0) = some (.int (fneg n x : Nat)) := by
  obtain ⟨h1, h2, h3⟩ := neg_facts n hn x hx
  exact idx_first (v := 0) h1 h2 h3
theorem inv_idx {n x : Nat} (hn : n ∈ sizesN) (hx : x < n) (h0 : x ≠ 0) : idxD (.list ((List.range n).map fun c => .int (fmul n x c : Nat))) (.int 1) = some (.int (finv n x : Nat)) := by
  obtain ⟨h1, h2, h3⟩ := inv_facts n hn x hx h0
  exact idx_first (v := 1) h1 h2 h3
theorem pow_facts : ∀ n ∈ sizesN, ∀ x < n, x ≠ 0 → fpow n x (n - 1) = 1 := by decide +kernel
theorem head_ord : ∀ n ∈ sizesN, ∀ k < n - 1, (((List.range (n - 1)).filter fun j => fpow n (1 + k) (1 + j) == 1)[0]?).map (1 + ·) = some (ford n (1 + k)) := by decide +kernel
theorem sort_logs0 : ∀ n ∈ sizesN, ∀ g ∈ fgens n, sortI ((List.range (n - 1)).map fun k => ((flog n g (1 + k) : Nat) : Int)) = (List.range (n - 1)).map Int.ofNat := by decide +kernel
theorem gens_ne : ∀ n ∈ sizesN, fgens n ≠ [] := by decide +kernel
theorem sort_logs {n g : Nat} (hn : n ∈ sizesN) (hg : g ∈ fgens n) : sortedD [.list ((List.range (n - 1)).map fun k => .int (flog n g (1 + k) : Nat))] = some ((List.range (n - 1)).map nI) := by
  have e : (List.range (n - 1)).map (fun k => PyData.int (flog n g (1 + k) : Nat)) = ((List.range (n - 1)).map fun k => ((flog n g (1 + k) : Nat) : Int)).map PyData.int := by rw [List.map_map]; rfl
  have e2 : sortedD [.list (((List.range (n - 1)).map fun k => ((flog n g (1 + k) : Nat) : Int)).map PyData.int)] = (allI (((List.range (n - 1)).map fun k => ((flog n g (1 + k) : Nat) : Int)).map PyData.int)).map fun ns => (sortI ns).map PyData.int := rfl
  rw [e, e2, allI_map, Option.map_some, sort_logs0 n hn g hg, List.map_map]
  rfl
theorem lr2_1 {j : Nat} (h : j ≤ 1000000) : lr2 (.int 1) (.int (j : Nat)) = some ((List.range (j - 1)).map fun k => nI (1 + k)) := lr2_ok (i := 1) (by decide) h
theorem ix_rowL {n y : Nat} {g : Nat → Nat} (hy : y < n) : ixD (.list ((List.range n).map fun c => .int (g c : Nat))) (.int (y : Nat)) = some (.int (g y : Nat)) := ix_row hy
theorem addTup {xs ys : List D} (h : xs.length + ys.length ≤ 1000000) : addD (.tuple xs) (.tuple ys) = some (.tuple (xs ++ ys)) := by
  have : (1000000 : Nat) ≤ sizeLine := by decide
  have e : addD (.tuple xs) (.tuple ys) = (if xs.length + ys.length ≤ sizeLine then some (.tuple (xs ++ ys)) else none) := rfl
  rw [e, if_pos (by omega)]
theorem slD_t {ds : List D} {l h : Option Int} : slD (.tuple ds) l h = some (.tuple (cutD ds l h)) := rfl
theorem cut_mem {ds : List D} {l h : Option Int} {x : D} (m : x ∈ cutD ds l h) : x ∈ ds := by
  unfold cutD at m
  exact List.mem_of_mem_drop (List.mem_of_mem_take m)
theorem cut_len {ds : List D} {l h : Option Int} : (cutD ds l h).length ≤ ds.length := by
  unfold cutD
  rw [List.length_take, List.length_drop]
  omega
theorem pw00 {n : Nat} (hn : n ∈ sizesN) : f_Field_power [fieldD n, .int 0, .int 0] = .ok (.int 1) := power_eq (x := 0) (k := 0) hn (by have := (size_facts n hn).1; omega) (by decide)
/-- a value of any kind that the law asks of -/
def ValOk (v : D) : Prop := notDict v = true ∧ ∀ ds, v = .tuple ds → ds.length ≤ 1000000 ∧ ∀ x ∈ ds, notDict x = true
theorem ValOk.tup {ds : List D} (h1 : ds.length ≤ 1000000) (h2 : ∀ x ∈ ds, notDict x = true) : ValOk (.tuple ds) := ⟨rfl, fun ds' e => by cases e; exact ⟨h1, h2⟩⟩
theorem neD_i1 : neD (.int ((1 : Nat) : Int)) (.int 1) = some (.bool false) := neD_i0
theorem IteK_r {b : Bool} {X Y : Prop} (y : Y) (h : b = true → Y → X) : IteK b X Y := by
  cases b with
  | true => exact h rfl y
  | false => exact y
theorem neD_bb {b : Bool} : neD (.bool b) (.bool b) = some (.bool false) := neD_self rfl rfl
end FW

namespace FW
open PySem PySem.Spec L2
open PyProof.Rows hiding St
theorem law_true : ∀ a ms, DrawOk ms → ∃ S, b_law (.un :: .drw a 0 ms :: List.replicate 18 .un) = .rt (.bool true) S := by
  intro ad ms hms
  have key : Wp b_law [.un, .drw ad 0 ms, .un, .un, .un, .un, .un, .un, .un, .un, .un, .un, .un, .un, .un, .un, .un, .un, .un, .un] (fun o => ∃ S, o = .rt (.bool true) S) := by
    unfold b_law
    have e0 : neD (.tuple c_SIZES) (.tuple [.int 2, .int 3, .int 4, .int 5, .int 7, .int 8, .int 9, .int 11, .int 13, .int 16]) = some (.bool false) := neD_self rfl rfl
    simp only [↓Ep_K, ↓Wp_K, ↓IteK_t, ↓IteK_f, ↓OpK_some, ↓AndK_t, ↓RsK_ok, ↓nxtK_nx, ↓nxtK_rt, ↓nxtK_bk, ↓nxtK_ct, ↓nxtK_ex, ↓VK_dat, ↓VK_own, ↓VK_dic, ↓X_V, ↓X_ret, ↓X_opt, ↓X_bind, ↓X_C, ↓X_nil, ↓X_no, ↓X_some, ↓X_yes, ↓X_cons, ↓X_bin, ↓X_un, ↓X_ix, ↓X_B, ↓X_BF, ↓X_binF, ↓X_tup, ↓X_lst, ↓X_lstF, ↓X_bOf, ↓X_and, ↓X_or, ↓X_not, ↓BoK_b, ↓X_eAnd, ↓X_eOr, ↓X_eNot, ↓X_eIf, ↓X_sl, ↓X_fz, ↓X_chain, ↓X_call, ↓X_meth, ↓X_rng1, ↓X_rng2, ↓X_rng3, ↓X_iA, ↓X_lr1, ↓X_lr2, ↓X_kget, ↓X_make, ↓X_get2, ↓X_get1, ↓X_eDic, ↓LsK_l, ↓X_idx, ↓X_VO, ↓X_BO, ↓X_BFO, ↓X_binO, ↓X_ixO, ↓MuK_own, ↓OwK_own, ↓X_mut, ↓Y_nx, ↓Y_pass, ↓Y_brk, ↓Y_cnt, ↓Y_retN, ↓Y_seq, ↓Y_asg, ↓Y_set, ↓Y_own, ↓Y_dat, ↓Y_dic, ↓Y_ret, ↓Y_expr, ↓Y_if, ↓Y_par, ↓Y_par3, ↓AuK_dat, ↓Y_aug, ↓Y_for, ↓Y_while, ↓Y_setIx, slotAt_eq, slotO_own, slotO_dic, g_N, g_two, g_three, g_T, g_L, g_nil, g_cons, Option.bind_some, Option.map_some, List.getElem?_cons_zero, List.getElem?_cons_succ, List.set_cons_zero, List.set_cons_succ, ↓X_W, ↓DrK_d, ↓WkK_d, ↓RwK_ok, ↓X_fzM, ↓X_prn, ↓X_prc, ↓X_disp, ↓X_vD, ↓X_vO, ↓X_vM, ↓Y_parK, asB_b, asI_i, eqD_ii, neD_ii, ltD_ii, leD_ii, gtD_ii, geD_ii, addD_ii, subD_ii, lenD_l, lenD_t, List.length_map, List.length_range, ↓lt_l0, ↓lt_ls, ↓le_l0, ↓le_ls, ↓ln_p, ↓eq_l0, ↓eq_ls, ↓sm_l, if_true, if_false, decide_true, decide_false, Bool.not_true, Bool.not_false, e0]
    refine pick_ok nI (xs := sizesN) (.inl rfl) hms (by decide) (by decide) fun n hn k1 ns1 h1 => ?_
    have hsz := size_facts n hn
    simp only [↓Ep_K, ↓Wp_K, ↓IteK_t, ↓IteK_f, ↓OpK_some, ↓AndK_t, ↓RsK_ok, ↓nxtK_nx, ↓nxtK_rt, ↓nxtK_bk, ↓nxtK_ct, ↓nxtK_ex, ↓VK_dat, ↓VK_own, ↓VK_dic, ↓X_V, ↓X_ret, ↓X_opt, ↓X_bind, ↓X_C, ↓X_nil, ↓X_no, ↓X_some, ↓X_yes, ↓X_cons, ↓X_bin, ↓X_un, ↓X_ix, ↓X_B, ↓X_BF, ↓X_binF, ↓X_tup, ↓X_lst, ↓X_lstF, ↓X_bOf, ↓X_and, ↓X_or, ↓X_not, ↓BoK_b, ↓X_eAnd, ↓X_eOr, ↓X_eNot, ↓X_eIf, ↓X_sl, ↓X_fz, ↓X_chain, ↓X_call, ↓X_meth, ↓X_rng1, ↓X_rng2, ↓X_rng3, ↓X_iA, ↓X_lr1, ↓X_lr2, ↓X_kget, ↓X_make, ↓X_get2, ↓X_get1, ↓X_eDic, ↓LsK_l, ↓X_idx, ↓X_VO, ↓X_BO, ↓X_BFO, ↓X_binO, ↓X_ixO, ↓MuK_own, ↓OwK_own, ↓X_mut, ↓Y_nx, ↓Y_pass, ↓Y_brk, ↓Y_cnt, ↓Y_retN, ↓Y_seq, ↓Y_asg, ↓Y_set, ↓Y_own, ↓Y_dat, ↓Y_dic, ↓Y_ret, ↓Y_expr, ↓Y_if, ↓Y_par, ↓Y_par3, ↓AuK_dat, ↓Y_aug, ↓Y_for, ↓Y_while, ↓Y_setIx, slotAt_eq, slotO_own, slotO_dic, g_N, g_two, g_three, g_T, g_L, g_nil, g_cons, Option.bind_some, Option.map_some, List.getElem?_cons_zero, List.getElem?_cons_succ, List.set_cons_zero, List.set_cons_succ, ↓X_W, ↓DrK_d, ↓WkK_d, ↓RwK_ok, ↓X_fzM, ↓X_prn, ↓X_prc, ↓X_disp, ↓X_vD, ↓X_vO, ↓X_vM, ↓Y_parK, asB_b, asI_i, eqD_ii, neD_ii, ltD_ii, leD_ii, gtD_ii, geD_ii, addD_ii, subD_ii, lenD_l, lenD_t, List.length_map, List.length_range, ↓lt_l0, ↓lt_ls, ↓le_l0, ↓le_ls, ↓ln_p, ↓eq_l0, ↓eq_ls, ↓sm_l, if_true, if_false, decide_true, decide_false, Bool.not_true, Bool.not_false, nI_eq, law_field_eq hn, mk_size hn, obF, f_fsize, neD_i0, rng1_ok (n := n) (by omega), list_range]
    refine W_forC nI (st := fun (c : Option D × Option D) => [.un, .drw ad k1 ns1, .dat (.int n), .dat (lawF n), .dat (fieldD n), gv c.1, gv c.2, .un, .un, .un, .un, .un, .un, .un, .un, .un, .un, .un, .un, .un]) (none, none) (fun x hx c => ?_) (fun c => ?_)
    · have hx := List.mem_range.mp hx
      refine ⟨_, rfl, ?_⟩
      simp only [↓Ep_K, ↓Wp_K, ↓IteK_t, ↓IteK_f, ↓OpK_some, ↓AndK_t, ↓RsK_ok, ↓nxtK_nx, ↓nxtK_rt, ↓nxtK_bk, ↓nxtK_ct, ↓nxtK_ex, ↓VK_dat, ↓VK_own, ↓VK_dic, ↓X_V, ↓X_ret, ↓X_opt, ↓X_bind, ↓X_C, ↓X_nil, ↓X_no, ↓X_some, ↓X_yes, ↓X_cons, ↓X_bin, ↓X_un, ↓X_ix, ↓X_B, ↓X_BF, ↓X_binF, ↓X_tup, ↓X_lst, ↓X_lstF, ↓X_bOf, ↓X_and, ↓X_or, ↓X_not, ↓BoK_b, ↓X_eAnd, ↓X_eOr, ↓X_eNot, ↓X_eIf, ↓X_sl, ↓X_fz, ↓X_chain, ↓X_call, ↓X_meth, ↓X_rng1, ↓X_rng2, ↓X_rng3, ↓X_iA, ↓X_lr1, ↓X_lr2, ↓X_kget, ↓X_make, ↓X_get2, ↓X_get1, ↓X_eDic, ↓LsK_l, ↓X_idx, ↓X_VO, ↓X_BO, ↓X_BFO, ↓X_binO, ↓X_ixO, ↓MuK_own, ↓OwK_own, ↓X_mut, ↓Y_nx, ↓Y_pass, ↓Y_brk, ↓Y_cnt, ↓Y_retN, ↓Y_seq, ↓Y_asg, ↓Y_set, ↓Y_own, ↓Y_dat, ↓Y_dic, ↓Y_ret, ↓Y_expr, ↓Y_if, ↓Y_par, ↓Y_par3, ↓AuK_dat, ↓Y_aug, ↓Y_for, ↓Y_while, ↓Y_setIx, slotAt_eq, slotO_own, slotO_dic, g_N, g_two, g_three, g_T, g_L, g_nil, g_cons, Option.bind_some, Option.map_some, List.getElem?_cons_zero, List.getElem?_cons_succ, List.set_cons_zero, List.set_cons_succ, ↓X_W, ↓DrK_d, ↓WkK_d, ↓RwK_ok, ↓X_fzM, ↓X_prn, ↓X_prc, ↓X_disp, ↓X_vD, ↓X_vO, ↓X_vM, ↓Y_parK, asB_b, asI_i, eqD_ii, neD_ii, ltD_ii, leD_ii, gtD_ii, geD_ii, addD_ii, subD_ii, lenD_l, lenD_t, List.length_map, List.length_range, ↓lt_l0, ↓lt_ls, ↓le_l0, ↓le_ls, ↓ln_p, ↓eq_l0, ↓eq_ls, ↓sm_l, if_true, if_false, decide_true, decide_false, Bool.not_true, Bool.not_false, nI_eq]
      refine E_mapG nI (List.range (n)) (fun k => .int (fadd n x k : Nat)) ?_ (by simp) (by first | rfl | (simp [plainAt, plain_gv]; done) | (simp [plainAt, plain_gv, plainSlot]; done)) (by simp only [List.length_range]; omega) (fun k hk => ?_) ?_
      · simp only [↓Ep_K, ↓Wp_K, ↓IteK_t, ↓IteK_f, ↓OpK_some, ↓AndK_t, ↓RsK_ok, ↓nxtK_nx, ↓nxtK_rt, ↓nxtK_bk, ↓nxtK_ct, ↓nxtK_ex, ↓VK_dat, ↓VK_own, ↓VK_dic, ↓X_V, ↓X_ret, ↓X_opt, ↓X_bind, ↓X_C, ↓X_nil, ↓X_no, ↓X_some, ↓X_yes, ↓X_cons, ↓X_bin, ↓X_un, ↓X_ix, ↓X_B, ↓X_BF, ↓X_binF, ↓X_tup, ↓X_lst, ↓X_lstF, ↓X_bOf, ↓X_and, ↓X_or, ↓X_not, ↓BoK_b, ↓X_eAnd, ↓X_eOr, ↓X_eNot, ↓X_eIf, ↓X_sl, ↓X_fz, ↓X_chain, ↓X_call, ↓X_meth, ↓X_rng1, ↓X_rng2, ↓X_rng3, ↓X_iA, ↓X_lr1, ↓X_lr2, ↓X_kget, ↓X_make, ↓X_get2, ↓X_get1, ↓X_eDic, ↓LsK_l, ↓X_idx, ↓X_VO, ↓X_BO, ↓X_BFO, ↓X_binO, ↓X_ixO, ↓MuK_own, ↓OwK_own, ↓X_mut, ↓Y_nx, ↓Y_pass, ↓Y_brk, ↓Y_cnt, ↓Y_retN, ↓Y_seq, ↓Y_asg, ↓Y_set, ↓Y_own, ↓Y_dat, ↓Y_dic, ↓Y_ret, ↓Y_expr, ↓Y_if, ↓Y_par, ↓Y_par3, ↓AuK_dat, ↓Y_aug, ↓Y_for, ↓Y_while, ↓Y_setIx, slotAt_eq, slotO_own, slotO_dic, g_N, g_two, g_three, g_T, g_L, g_nil, g_cons, Option.bind_some, Option.map_some, List.getElem?_cons_zero, List.getElem?_cons_succ, List.set_cons_zero, List.set_cons_succ, ↓X_W, ↓DrK_d, ↓WkK_d, ↓RwK_ok, ↓X_fzM, ↓X_prn, ↓X_prc, ↓X_disp, ↓X_vD, ↓X_vO, ↓X_vM, ↓Y_parK, asB_b, asI_i, eqD_ii, neD_ii, ltD_ii, leD_ii, gtD_ii, geD_ii, addD_ii, subD_ii, lenD_l, lenD_t, List.length_map, List.length_range, ↓lt_l0, ↓lt_ls, ↓le_l0, ↓le_ls, ↓ln_p, ↓eq_l0, ↓eq_ls, ↓sm_l, if_true, if_false, decide_true, decide_false, Bool.not_true, Bool.not_false, rng1_ok (n := n) (by omega), list_range, and_self]
      · have hk := List.mem_range.mp hk
        simp only [↓Ep_K, ↓Wp_K, ↓IteK_t, ↓IteK_f, ↓OpK_some, ↓AndK_t, ↓RsK_ok, ↓nxtK_nx, ↓nxtK_rt, ↓nxtK_bk, ↓nxtK_ct, ↓nxtK_ex, ↓VK_dat, ↓VK_own, ↓VK_dic, ↓X_V, ↓X_ret, ↓X_opt, ↓X_bind, ↓X_C, ↓X_nil, ↓X_no, ↓X_some, ↓X_yes, ↓X_cons, ↓X_bin, ↓X_un, ↓X_ix, ↓X_B, ↓X_BF, ↓X_binF, ↓X_tup, ↓X_lst, ↓X_lstF, ↓X_bOf, ↓X_and, ↓X_or, ↓X_not, ↓BoK_b, ↓X_eAnd, ↓X_eOr, ↓X_eNot, ↓X_eIf, ↓X_sl, ↓X_fz, ↓X_chain, ↓X_call, ↓X_meth, ↓X_rng1, ↓X_rng2, ↓X_rng3, ↓X_iA, ↓X_lr1, ↓X_lr2, ↓X_kget, ↓X_make, ↓X_get2, ↓X_get1, ↓X_eDic, ↓LsK_l, ↓X_idx, ↓X_VO, ↓X_BO, ↓X_BFO, ↓X_binO, ↓X_ixO, ↓MuK_own, ↓OwK_own, ↓X_mut, ↓Y_nx, ↓Y_pass, ↓Y_brk, ↓Y_cnt, ↓Y_retN, ↓Y_seq, ↓Y_asg, ↓Y_set, ↓Y_own, ↓Y_dat, ↓Y_dic, ↓Y_ret, ↓Y_expr, ↓Y_if, ↓Y_par, ↓Y_par3, ↓AuK_dat, ↓Y_aug, ↓Y_for, ↓Y_while, ↓Y_setIx, slotAt_eq, slotO_own, slotO_dic, g_N, g_two, g_three, g_T, g_L, g_nil, g_cons, Option.bind_some, Option.map_some, List.getElem?_cons_zero, List.getElem?_cons_succ, List.set_cons_zero, List.set_cons_succ, ↓X_W, ↓DrK_d, ↓WkK_d, ↓RwK_ok, ↓X_fzM, ↓X_prn, ↓X_prc, ↓X_disp, ↓X_vD, ↓X_vO, ↓X_vM, ↓Y_parK, asB_b, asI_i, eqD_ii, neD_ii, ltD_ii, leD_ii, gtD_ii, geD_ii, addD_ii, subD_ii, lenD_l, lenD_t, List.length_map, List.length_range, ↓lt_l0, ↓lt_ls, ↓le_l0, ↓le_ls, ↓ln_p, ↓eq_l0, ↓eq_ls, ↓sm_l, if_true, if_false, decide_true, decide_false, Bool.not_true, Bool.not_false, nI_eq, ob_plus, plus_eq hn hx hk, and_self]
      simp only [↓Ep_K, ↓Wp_K, ↓IteK_t, ↓IteK_f, ↓OpK_some, ↓AndK_t, ↓RsK_ok, ↓nxtK_nx, ↓nxtK_rt, ↓nxtK_bk, ↓nxtK_ct, ↓nxtK_ex, ↓VK_dat, ↓VK_own, ↓VK_dic, ↓X_V, ↓X_ret, ↓X_opt, ↓X_bind, ↓X_C, ↓X_nil, ↓X_no, ↓X_some, ↓X_yes, ↓X_cons, ↓X_bin, ↓X_un, ↓X_ix, ↓X_B, ↓X_BF, ↓X_binF, ↓X_tup, ↓X_lst, ↓X_lstF, ↓X_bOf, ↓X_and, ↓X_or, ↓X_not, ↓BoK_b, ↓X_eAnd, ↓X_eOr, ↓X_eNot, ↓X_eIf, ↓X_sl, ↓X_fz, ↓X_chain, ↓X_call, ↓X_meth, ↓X_rng1, ↓X_rng2, ↓X_rng3, ↓X_iA, ↓X_lr1, ↓X_lr2, ↓X_kget, ↓X_make, ↓X_get2, ↓X_get1, ↓X_eDic, ↓LsK_l, ↓X_idx, ↓X_VO, ↓X_BO, ↓X_BFO, ↓X_binO, ↓X_ixO, ↓MuK_own, ↓OwK_own, ↓X_mut, ↓Y_nx, ↓Y_pass, ↓Y_brk, ↓Y_cnt, ↓Y_retN, ↓Y_seq, ↓Y_asg, ↓Y_set, ↓Y_own, ↓Y_dat, ↓Y_dic, ↓Y_ret, ↓Y_expr, ↓Y_if, ↓Y_par, ↓Y_par3, ↓AuK_dat, ↓Y_aug, ↓Y_for, ↓Y_while, ↓Y_setIx, slotAt_eq, slotO_own, slotO_dic, g_N, g_two, g_three, g_T, g_L, g_nil, g_cons, Option.bind_some, Option.map_some, List.getElem?_cons_zero, List.getElem?_cons_succ, List.set_cons_zero, List.set_cons_succ, ↓X_W, ↓DrK_d, ↓WkK_d, ↓RwK_ok, ↓X_fzM, ↓X_prn, ↓X_prc, ↓X_disp, ↓X_vD, ↓X_vO, ↓X_vM, ↓Y_parK, asB_b, asI_i, eqD_ii, neD_ii, ltD_ii, leD_ii, gtD_ii, geD_ii, addD_ii, subD_ii, lenD_l, lenD_t, List.length_map, List.length_range, ↓lt_l0, ↓lt_ls, ↓le_l0, ↓le_ls, ↓ln_p, ↓eq_l0, ↓eq_ls, ↓sm_l, if_true, if_false, decide_true, decide_false, Bool.not_true, Bool.not_false, lawF_0, ix_tab hx, neD_row]
      refine E_mapG nI (List.range (n)) (fun k => .int (fmul n x k : Nat)) ?_ (by simp) (by first | rfl | (simp [plainAt, plain_gv]; done) | (simp [plainAt, plain_gv, plainSlot]; done)) (by simp only [List.length_range]; omega) (fun k hk => ?_) ?_
      · simp only [↓Ep_K, ↓Wp_K, ↓IteK_t, ↓IteK_f, ↓OpK_some, ↓AndK_t, ↓RsK_ok, ↓nxtK_nx, ↓nxtK_rt, ↓nxtK_bk, ↓nxtK_ct, ↓nxtK_ex, ↓VK_dat, ↓VK_own, ↓VK_dic, ↓X_V, ↓X_ret, ↓X_opt, ↓X_bind, ↓X_C, ↓X_nil, ↓X_no, ↓X_some, ↓X_yes, ↓X_cons, ↓X_bin, ↓X_un, ↓X_ix, ↓X_B, ↓X_BF, ↓X_binF, ↓X_tup, ↓X_lst, ↓X_lstF, ↓X_bOf, ↓X_and, ↓X_or, ↓X_not, ↓BoK_b, ↓X_eAnd, ↓X_eOr, ↓X_eNot, ↓X_eIf, ↓X_sl, ↓X_fz, ↓X_chain, ↓X_call, ↓X_meth, ↓X_rng1, ↓X_rng2, ↓X_rng3, ↓X_iA, ↓X_lr1, ↓X_lr2, ↓X_kget, ↓X_make, ↓X_get2, ↓X_get1, ↓X_eDic, ↓LsK_l, ↓X_idx, ↓X_VO, ↓X_BO, ↓X_BFO, ↓X_binO, ↓X_ixO, ↓MuK_own, ↓OwK_own, ↓X_mut, ↓Y_nx, ↓Y_pass, ↓Y_brk, ↓Y_cnt, ↓Y_retN, ↓Y_seq, ↓Y_asg, ↓Y_set, ↓Y_own, ↓Y_dat, ↓Y_dic, ↓Y_ret, ↓Y_expr, ↓Y_if, ↓Y_par, ↓Y_par3, ↓AuK_dat, ↓Y_aug, ↓Y_for, ↓Y_while, ↓Y_setIx, slotAt_eq, slotO_own, slotO_dic, g_N, g_two, g_three, g_T, g_L, g_nil, g_cons, Option.bind_some, Option.map_some, List.getElem?_cons_zero, List.getElem?_cons_succ, List.set_cons_zero, List.set_cons_succ, ↓X_W, ↓DrK_d, ↓WkK_d, ↓RwK_ok, ↓X_fzM, ↓X_prn, ↓X_prc, ↓X_disp, ↓X_vD, ↓X_vO, ↓X_vM, ↓Y_parK, asB_b, asI_i, eqD_ii, neD_ii, ltD_ii, leD_ii, gtD_ii, geD_ii, addD_ii, subD_ii, lenD_l, lenD_t, List.length_map, List.length_range, ↓lt_l0, ↓lt_ls, ↓le_l0, ↓le_ls, ↓ln_p, ↓eq_l0, ↓eq_ls, ↓sm_l, if_true, if_false, decide_true, decide_false, Bool.not_true, Bool.not_false, rng1_ok (n := n) (by omega), list_range, and_self]
      · have hk := List.mem_range.mp hk
        simp only [↓Ep_K, ↓Wp_K, ↓IteK_t, ↓IteK_f, ↓OpK_some, ↓AndK_t, ↓RsK_ok, ↓nxtK_nx, ↓nxtK_rt, ↓nxtK_bk, ↓nxtK_ct, ↓nxtK_ex, ↓VK_dat, ↓VK_own, ↓VK_dic, ↓X_V, ↓X_ret, ↓X_opt, ↓X_bind, ↓X_C, ↓X_nil, ↓X_no, ↓X_some, ↓X_yes, ↓X_cons, ↓X_bin, ↓X_un, ↓X_ix, ↓X_B, ↓X_BF, ↓X_binF, ↓X_tup, ↓X_lst, ↓X_lstF, ↓X_bOf, ↓X_and, ↓X_or, ↓X_not, ↓BoK_b, ↓X_eAnd, ↓X_eOr, ↓X_eNot, ↓X_eIf, ↓X_sl, ↓X_fz, ↓X_chain, ↓X_call, ↓X_meth, ↓X_rng1, ↓X_rng2, ↓X_rng3, ↓X_iA, ↓X_lr1, ↓X_lr2, ↓X_kget, ↓X_make, ↓X_get2, ↓X_get1, ↓X_eDic, ↓LsK_l, ↓X_idx, ↓X_VO, ↓X_BO, ↓X_BFO, ↓X_binO, ↓X_ixO, ↓MuK_own, ↓OwK_own, ↓X_mut, ↓Y_nx, ↓Y_pass, ↓Y_brk, ↓Y_cnt, ↓Y_retN, ↓Y_seq, ↓Y_asg, ↓Y_set, ↓Y_own, ↓Y_dat, ↓Y_dic, ↓Y_ret, ↓Y_expr, ↓Y_if, ↓Y_par, ↓Y_par3, ↓AuK_dat, ↓Y_aug, ↓Y_for, ↓Y_while, ↓Y_setIx, slotAt_eq, slotO_own, slotO_dic, g_N, g_two, g_three, g_T, g_L, g_nil, g_cons, Option.bind_some, Option.map_some, List.getElem?_cons_zero, List.getElem?_cons_succ, List.set_cons_zero, List.set_cons_succ, ↓X_W, ↓DrK_d, ↓WkK_d, ↓RwK_ok, ↓X_fzM, ↓X_prn, ↓X_prc, ↓X_disp, ↓X_vD, ↓X_vO, ↓X_vM, ↓Y_parK, asB_b, asI_i, eqD_ii, neD_ii, ltD_ii, leD_ii, gtD_ii, geD_ii, addD_ii, subD_ii, lenD_l, lenD_t, List.length_map, List.length_range, ↓lt_l0, ↓lt_ls, ↓le_l0, ↓le_ls, ↓ln_p, ↓eq_l0, ↓eq_ls, ↓sm_l, if_true, if_false, decide_true, decide_false, Bool.not_true, Bool.not_false, nI_eq, ob_times, times_eq hn hx hk, and_self]
      simp only [↓Ep_K, ↓Wp_K, ↓IteK_t, ↓IteK_f, ↓OpK_some, ↓AndK_t, ↓RsK_ok, ↓nxtK_nx, ↓nxtK_rt, ↓nxtK_bk, ↓nxtK_ct, ↓nxtK_ex, ↓VK_dat, ↓VK_own, ↓VK_dic, ↓X_V, ↓X_ret, ↓X_opt, ↓X_bind, ↓X_C, ↓X_nil, ↓X_no, ↓X_some, ↓X_yes, ↓X_cons, ↓X_bin, ↓X_un, ↓X_ix, ↓X_B, ↓X_BF, ↓X_binF, ↓X_tup, ↓X_lst, ↓X_lstF, ↓X_bOf, ↓X_and, ↓X_or, ↓X_not, ↓BoK_b, ↓X_eAnd, ↓X_eOr, ↓X_eNot, ↓X_eIf, ↓X_sl, ↓X_fz, ↓X_chain, ↓X_call, ↓X_meth, ↓X_rng1, ↓X_rng2, ↓X_rng3, ↓X_iA, ↓X_lr1, ↓X_lr2, ↓X_kget, ↓X_make, ↓X_get2, ↓X_get1, ↓X_eDic, ↓LsK_l, ↓X_idx, ↓X_VO, ↓X_BO, ↓X_BFO, ↓X_binO, ↓X_ixO, ↓MuK_own, ↓OwK_own, ↓X_mut, ↓Y_nx, ↓Y_pass, ↓Y_brk, ↓Y_cnt, ↓Y_retN, ↓Y_seq, ↓Y_asg, ↓Y_set, ↓Y_own, ↓Y_dat, ↓Y_dic, ↓Y_ret, ↓Y_expr, ↓Y_if, ↓Y_par, ↓Y_par3, ↓AuK_dat, ↓Y_aug, ↓Y_for, ↓Y_while, ↓Y_setIx, slotAt_eq, slotO_own, slotO_dic, g_N, g_two, g_three, g_T, g_L, g_nil, g_cons, Option.bind_some, Option.map_some, List.getElem?_cons_zero, List.getElem?_cons_succ, List.set_cons_zero, List.set_cons_succ, ↓X_W, ↓DrK_d, ↓WkK_d, ↓RwK_ok, ↓X_fzM, ↓X_prn, ↓X_prc, ↓X_disp, ↓X_vD, ↓X_vO, ↓X_vM, ↓Y_parK, asB_b, asI_i, eqD_ii, neD_ii, ltD_ii, leD_ii, gtD_ii, geD_ii, addD_ii, subD_ii, lenD_l, lenD_t, List.length_map, List.length_range, ↓lt_l0, ↓lt_ls, ↓le_l0, ↓le_ls, ↓ln_p, ↓eq_l0, ↓eq_ls, ↓sm_l, if_true, if_false, decide_true, decide_false, Bool.not_true, Bool.not_false, lawF_1, lawF_0, ix_tab hx, neD_row, ob_negative, negative_eq hn hx, LsK_row, neg_idx hn hx, neD_i0]
      refine E_mapG nI (List.range (n)) (fun k => .int (fadd n x (fneg n k) : Nat)) ?_ (by simp) (by first | rfl | (simp [plainAt, plain_gv]; done) | (simp [plainAt, plain_gv, plainSlot]; done)) (by simp only [List.length_range]; omega) (fun k hk => ?_) ?_
      · simp only [↓Ep_K, ↓Wp_K, ↓IteK_t, ↓IteK_f, ↓OpK_some, ↓AndK_t, ↓RsK_ok, ↓nxtK_nx, ↓nxtK_rt, ↓nxtK_bk, ↓nxtK_ct, ↓nxtK_ex, ↓VK_dat, ↓VK_own, ↓VK_dic, ↓X_V, ↓X_ret, ↓X_opt, ↓X_bind, ↓X_C, ↓X_nil, ↓X_no, ↓X_some, ↓X_yes, ↓X_cons, ↓X_bin, ↓X_un, ↓X_ix, ↓X_B, ↓X_BF, ↓X_binF, ↓X_tup, ↓X_lst, ↓X_lstF, ↓X_bOf, ↓X_and, ↓X_or, ↓X_not, ↓BoK_b, ↓X_eAnd, ↓X_eOr, ↓X_eNot, ↓X_eIf, ↓X_sl, ↓X_fz, ↓X_chain, ↓X_call, ↓X_meth, ↓X_rng1, ↓X_rng2, ↓X_rng3, ↓X_iA, ↓X_lr1, ↓X_lr2, ↓X_kget, ↓X_make, ↓X_get2, ↓X_get1, ↓X_eDic, ↓LsK_l, ↓X_idx, ↓X_VO, ↓X_BO, ↓X_BFO, ↓X_binO, ↓X_ixO, ↓MuK_own, ↓OwK_own, ↓X_mut, ↓Y_nx, ↓Y_pass, ↓Y_brk, ↓Y_cnt, ↓Y_retN, ↓Y_seq, ↓Y_asg, ↓Y_set, ↓Y_own, ↓Y_dat, ↓Y_dic, ↓Y_ret, ↓Y_expr, ↓Y_if, ↓Y_par, ↓Y_par3, ↓AuK_dat, ↓Y_aug, ↓Y_for, ↓Y_while, ↓Y_setIx, slotAt_eq, slotO_own, slotO_dic, g_N, g_two, g_three, g_T, g_L, g_nil, g_cons, Option.bind_some, Option.map_some, List.getElem?_cons_zero, List.getElem?_cons_succ, List.set_cons_zero, List.set_cons_succ, ↓X_W, ↓DrK_d, ↓WkK_d, ↓RwK_ok, ↓X_fzM, ↓X_prn, ↓X_prc, ↓X_disp, ↓X_vD, ↓X_vO, ↓X_vM, ↓Y_parK, asB_b, asI_i, eqD_ii, neD_ii, ltD_ii, leD_ii, gtD_ii, geD_ii, addD_ii, subD_ii, lenD_l, lenD_t, List.length_map, List.length_range, ↓lt_l0, ↓lt_ls, ↓le_l0, ↓le_ls, ↓ln_p, ↓eq_l0, ↓eq_ls, ↓sm_l, if_true, if_false, decide_true, decide_false, Bool.not_true, Bool.not_false, rng1_ok (n := n) (by omega), list_range, and_self]
      · have hk := List.mem_range.mp hk
        simp only [↓Ep_K, ↓Wp_K, ↓IteK_t, ↓IteK_f, ↓OpK_some, ↓AndK_t, ↓RsK_ok, ↓nxtK_nx, ↓nxtK_rt, ↓nxtK_bk, ↓nxtK_ct, ↓nxtK_ex, ↓VK_dat, ↓VK_own, ↓VK_dic, ↓X_V, ↓X_ret, ↓X_opt, ↓X_bind, ↓X_C, ↓X_nil, ↓X_no, ↓X_some, ↓X_yes, ↓X_cons, ↓X_bin, ↓X_un, ↓X_ix, ↓X_B, ↓X_BF, ↓X_binF, ↓X_tup, ↓X_lst, ↓X_lstF, ↓X_bOf, ↓X_and, ↓X_or, ↓X_not, ↓BoK_b, ↓X_eAnd, ↓X_eOr, ↓X_eNot, ↓X_eIf, ↓X_sl, ↓X_fz, ↓X_chain, ↓X_call, ↓X_meth, ↓X_rng1, ↓X_rng2, ↓X_rng3, ↓X_iA, ↓X_lr1, ↓X_lr2, ↓X_kget, ↓X_make, ↓X_get2, ↓X_get1, ↓X_eDic, ↓LsK_l, ↓X_idx, ↓X_VO, ↓X_BO, ↓X_BFO, ↓X_binO, ↓X_ixO, ↓MuK_own, ↓OwK_own, ↓X_mut, ↓Y_nx, ↓Y_pass, ↓Y_brk, ↓Y_cnt, ↓Y_retN, ↓Y_seq, ↓Y_asg, ↓Y_set, ↓Y_own, ↓Y_dat, ↓Y_dic, ↓Y_ret, ↓Y_expr, ↓Y_if, ↓Y_par, ↓Y_par3, ↓AuK_dat, ↓Y_aug, ↓Y_for, ↓Y_while, ↓Y_setIx, slotAt_eq, slotO_own, slotO_dic, g_N, g_two, g_three, g_T, g_L, g_nil, g_cons, Option.bind_some, Option.map_some, List.getElem?_cons_zero, List.getElem?_cons_succ, List.set_cons_zero, List.set_cons_succ, ↓X_W, ↓DrK_d, ↓WkK_d, ↓RwK_ok, ↓X_fzM, ↓X_prn, ↓X_prc, ↓X_disp, ↓X_vD, ↓X_vO, ↓X_vM, ↓Y_parK, asB_b, asI_i, eqD_ii, neD_ii, ltD_ii, leD_ii, gtD_ii, geD_ii, addD_ii, subD_ii, lenD_l, lenD_t, List.length_map, List.length_range, ↓lt_l0, ↓lt_ls, ↓le_l0, ↓le_ls, ↓ln_p, ↓eq_l0, ↓eq_ls, ↓sm_l, if_true, if_false, decide_true, decide_false, Bool.not_true, Bool.not_false, nI_eq, ob_minus, minus_eq hn hx hk, and_self]
      simp only [↓Ep_K, ↓Wp_K, ↓IteK_t, ↓IteK_f, ↓OpK_some, ↓AndK_t, ↓RsK_ok, ↓nxtK_nx, ↓nxtK_rt, ↓nxtK_bk, ↓nxtK_ct, ↓nxtK_ex, ↓VK_dat, ↓VK_own, ↓VK_dic, ↓X_V, ↓X_ret, ↓X_opt, ↓X_bind, ↓X_C, ↓X_nil, ↓X_no, ↓X_some, ↓X_yes, ↓X_cons, ↓X_bin, ↓X_un, ↓X_ix, ↓X_B, ↓X_BF, ↓X_binF, ↓X_tup, ↓X_lst, ↓X_lstF, ↓X_bOf, ↓X_and, ↓X_or, ↓X_not, ↓BoK_b, ↓X_eAnd, ↓X_eOr, ↓X_eNot, ↓X_eIf, ↓X_sl, ↓X_fz, ↓X_chain, ↓X_call, ↓X_meth, ↓X_rng1, ↓X_rng2, ↓X_rng3, ↓X_iA, ↓X_lr1, ↓X_lr2, ↓X_kget, ↓X_make, ↓X_get2, ↓X_get1, ↓X_eDic, ↓LsK_l, ↓X_idx, ↓X_VO, ↓X_BO, ↓X_BFO, ↓X_binO, ↓X_ixO, ↓MuK_own, ↓OwK_own, ↓X_mut, ↓Y_nx, ↓Y_pass, ↓Y_brk, ↓Y_cnt, ↓Y_retN, ↓Y_seq, ↓Y_asg, ↓Y_set, ↓Y_own, ↓Y_dat, ↓Y_dic, ↓Y_ret, ↓Y_expr, ↓Y_if, ↓Y_par, ↓Y_par3, ↓AuK_dat, ↓Y_aug, ↓Y_for, ↓Y_while, ↓Y_setIx, slotAt_eq, slotO_own, slotO_dic, g_N, g_two, g_three, g_T, g_L, g_nil, g_cons, Option.bind_some, Option.map_some, List.getElem?_cons_zero, List.getElem?_cons_succ, List.set_cons_zero, List.set_cons_succ, ↓X_W, ↓DrK_d, ↓WkK_d, ↓RwK_ok, ↓X_fzM, ↓X_prn, ↓X_prc, ↓X_disp, ↓X_vD, ↓X_vO, ↓X_vM, ↓Y_parK, asB_b, asI_i, eqD_ii, neD_ii, ltD_ii, leD_ii, gtD_ii, geD_ii, addD_ii, subD_ii, lenD_l, lenD_t, List.length_map, List.length_range, ↓lt_l0, ↓lt_ls, ↓le_l0, ↓le_ls, ↓ln_p, ↓eq_l0, ↓eq_ls, ↓sm_l, if_true, if_false, decide_true, decide_false, Bool.not_true, Bool.not_false]
      refine E_mapG nI (List.range (n)) (fun k => .int (fadd n x (fneg n k) : Nat)) ?_ (by simp) (by first | rfl | (simp [plainAt, plain_gv]; done) | (simp [plainAt, plain_gv, plainSlot]; done)) (by simp only [List.length_range]; omega) (fun k hk => ?_) ?_
      · simp only [↓Ep_K, ↓Wp_K, ↓IteK_t, ↓IteK_f, ↓OpK_some, ↓AndK_t, ↓RsK_ok, ↓nxtK_nx, ↓nxtK_rt, ↓nxtK_bk, ↓nxtK_ct, ↓nxtK_ex, ↓VK_dat, ↓VK_own, ↓VK_dic, ↓X_V, ↓X_ret, ↓X_opt, ↓X_bind, ↓X_C, ↓X_nil, ↓X_no, ↓X_some, ↓X_yes, ↓X_cons, ↓X_bin, ↓X_un, ↓X_ix, ↓X_B, ↓X_BF, ↓X_binF, ↓X_tup, ↓X_lst, ↓X_lstF, ↓X_bOf, ↓X_and, ↓X_or, ↓X_not, ↓BoK_b, ↓X_eAnd, ↓X_eOr, ↓X_eNot, ↓X_eIf, ↓X_sl, ↓X_fz, ↓X_chain, ↓X_call, ↓X_meth, ↓X_rng1, ↓X_rng2, ↓X_rng3, ↓X_iA, ↓X_lr1, ↓X_lr2, ↓X_kget, ↓X_make, ↓X_get2, ↓X_get1, ↓X_eDic, ↓LsK_l, ↓X_idx, ↓X_VO, ↓X_BO, ↓X_BFO, ↓X_binO, ↓X_ixO, ↓MuK_own, ↓OwK_own, ↓X_mut, ↓Y_nx, ↓Y_pass, ↓Y_brk, ↓Y_cnt, ↓Y_retN, ↓Y_seq, ↓Y_asg, ↓Y_set, ↓Y_own, ↓Y_dat, ↓Y_dic, ↓Y_ret, ↓Y_expr, ↓Y_if, ↓Y_par, ↓Y_par3, ↓AuK_dat, ↓Y_aug, ↓Y_for, ↓Y_while, ↓Y_setIx, slotAt_eq, slotO_own, slotO_dic, g_N, g_two, g_three, g_T, g_L, g_nil, g_cons, Option.bind_some, Option.map_some, List.getElem?_cons_zero, List.getElem?_cons_succ, List.set_cons_zero, List.set_cons_succ, ↓X_W, ↓DrK_d, ↓WkK_d, ↓RwK_ok, ↓X_fzM, ↓X_prn, ↓X_prc, ↓X_disp, ↓X_vD, ↓X_vO, ↓X_vM, ↓Y_parK, asB_b, asI_i, eqD_ii, neD_ii, ltD_ii, leD_ii, gtD_ii, geD_ii, addD_ii, subD_ii, lenD_l, lenD_t, List.length_map, List.length_range, ↓lt_l0, ↓lt_ls, ↓le_l0, ↓le_ls, ↓ln_p, ↓eq_l0, ↓eq_ls, ↓sm_l, if_true, if_false, decide_true, decide_false, Bool.not_true, Bool.not_false, rng1_ok (n := n) (by omega), list_range, and_self]
      · have hk := List.mem_range.mp hk
        simp only [↓Ep_K, ↓Wp_K, ↓IteK_t, ↓IteK_f, ↓OpK_some, ↓AndK_t, ↓RsK_ok, ↓nxtK_nx, ↓nxtK_rt, ↓nxtK_bk, ↓nxtK_ct, ↓nxtK_ex, ↓VK_dat, ↓VK_own, ↓VK_dic, ↓X_V, ↓X_ret, ↓X_opt, ↓X_bind, ↓X_C, ↓X_nil, ↓X_no, ↓X_some, ↓X_yes, ↓X_cons, ↓X_bin, ↓X_un, ↓X_ix, ↓X_B, ↓X_BF, ↓X_binF, ↓X_tup, ↓X_lst, ↓X_lstF, ↓X_bOf, ↓X_and, ↓X_or, ↓X_not, ↓BoK_b, ↓X_eAnd, ↓X_eOr, ↓X_eNot, ↓X_eIf, ↓X_sl, ↓X_fz, ↓X_chain, ↓X_call, ↓X_meth, ↓X_rng1, ↓X_rng2, ↓X_rng3, ↓X_iA, ↓X_lr1, ↓X_lr2, ↓X_kget, ↓X_make, ↓X_get2, ↓X_get1, ↓X_eDic, ↓LsK_l, ↓X_idx, ↓X_VO, ↓X_BO, ↓X_BFO, ↓X_binO, ↓X_ixO, ↓MuK_own, ↓OwK_own, ↓X_mut, ↓Y_nx, ↓Y_pass, ↓Y_brk, ↓Y_cnt, ↓Y_retN, ↓Y_seq, ↓Y_asg, ↓Y_set, ↓Y_own, ↓Y_dat, ↓Y_dic, ↓Y_ret, ↓Y_expr, ↓Y_if, ↓Y_par, ↓Y_par3, ↓AuK_dat, ↓Y_aug, ↓Y_for, ↓Y_while, ↓Y_setIx, slotAt_eq, slotO_own, slotO_dic, g_N, g_two, g_three, g_T, g_L, g_nil, g_cons, Option.bind_some, Option.map_some, List.getElem?_cons_zero, List.getElem?_cons_succ, List.set_cons_zero, List.set_cons_succ, ↓X_W, ↓DrK_d, ↓WkK_d, ↓RwK_ok, ↓X_fzM, ↓X_prn, ↓X_prc, ↓X_disp, ↓X_vD, ↓X_vO, ↓X_vM, ↓Y_parK, asB_b, asI_i, eqD_ii, neD_ii, ltD_ii, leD_ii, gtD_ii, geD_ii, addD_ii, subD_ii, lenD_l, lenD_t, List.length_map, List.length_range, ↓lt_l0, ↓lt_ls, ↓le_l0, ↓le_ls, ↓ln_p, ↓eq_l0, ↓eq_ls, ↓sm_l, if_true, if_false, decide_true, decide_false, Bool.not_true, Bool.not_false, nI_eq, lawF_0, ix_tab hx, ix_tab hk, LsK_row, neg_idx hn hk, ix_row (neg_facts n hn k hk).1, and_self]
      simp only [↓Ep_K, ↓Wp_K, ↓IteK_t, ↓IteK_f, ↓OpK_some, ↓AndK_t, ↓RsK_ok, ↓nxtK_nx, ↓nxtK_rt, ↓nxtK_bk, ↓nxtK_ct, ↓nxtK_ex, ↓VK_dat, ↓VK_own, ↓VK_dic, ↓X_V, ↓X_ret, ↓X_opt, ↓X_bind, ↓X_C, ↓X_nil, ↓X_no, ↓X_some, ↓X_yes, ↓X_cons, ↓X_bin, ↓X_un, ↓X_ix, ↓X_B, ↓X_BF, ↓X_binF, ↓X_tup, ↓X_lst, ↓X_lstF, ↓X_bOf, ↓X_and, ↓X_or, ↓X_not, ↓BoK_b, ↓X_eAnd, ↓X_eOr, ↓X_eNot, ↓X_eIf, ↓X_sl, ↓X_fz, ↓X_chain, ↓X_call, ↓X_meth, ↓X_rng1, ↓X_rng2, ↓X_rng3, ↓X_iA, ↓X_lr1, ↓X_lr2, ↓X_kget, ↓X_make, ↓X_get2, ↓X_get1, ↓X_eDic, ↓LsK_l, ↓X_idx, ↓X_VO, ↓X_BO, ↓X_BFO, ↓X_binO, ↓X_ixO, ↓MuK_own, ↓OwK_own, ↓X_mut, ↓Y_nx, ↓Y_pass, ↓Y_brk, ↓Y_cnt, ↓Y_retN, ↓Y_seq, ↓Y_asg, ↓Y_set, ↓Y_own, ↓Y_dat, ↓Y_dic, ↓Y_ret, ↓Y_expr, ↓Y_if, ↓Y_par, ↓Y_par3, ↓AuK_dat, ↓Y_aug, ↓Y_for, ↓Y_while, ↓Y_setIx, slotAt_eq, slotO_own, slotO_dic, g_N, g_two, g_three, g_T, g_L, g_nil, g_cons, Option.bind_some, Option.map_some, List.getElem?_cons_zero, List.getElem?_cons_succ, List.set_cons_zero, List.set_cons_succ, ↓X_W, ↓DrK_d, ↓WkK_d, ↓RwK_ok, ↓X_fzM, ↓X_prn, ↓X_prc, ↓X_disp, ↓X_vD, ↓X_vO, ↓X_vM, ↓Y_parK, asB_b, asI_i, eqD_ii, neD_ii, ltD_ii, leD_ii, gtD_ii, geD_ii, addD_ii, subD_ii, lenD_l, lenD_t, List.length_map, List.length_range, ↓lt_l0, ↓lt_ls, ↓le_l0, ↓le_ls, ↓ln_p, ↓eq_l0, ↓eq_ls, ↓sm_l, if_true, if_false, decide_true, decide_false, Bool.not_true, Bool.not_false, neD_row2]
      by_cases h0 : x = 0
      · have hd : decide ((0 : Int) < (x : Int)) = false := by simp; omega
        simp only [↓Ep_K, ↓Wp_K, ↓IteK_t, ↓IteK_f, ↓OpK_some, ↓AndK_t, ↓RsK_ok, ↓nxtK_nx, ↓nxtK_rt, ↓nxtK_bk, ↓nxtK_ct, ↓nxtK_ex, ↓VK_dat, ↓VK_own, ↓VK_dic, ↓X_V, ↓X_ret, ↓X_opt, ↓X_bind, ↓X_C, ↓X_nil, ↓X_no, ↓X_some, ↓X_yes, ↓X_cons, ↓X_bin, ↓X_un, ↓X_ix, ↓X_B, ↓X_BF, ↓X_binF, ↓X_tup, ↓X_lst, ↓X_lstF, ↓X_bOf, ↓X_and, ↓X_or, ↓X_not, ↓BoK_b, ↓X_eAnd, ↓X_eOr, ↓X_eNot, ↓X_eIf, ↓X_sl, ↓X_fz, ↓X_chain, ↓X_call, ↓X_meth, ↓X_rng1, ↓X_rng2, ↓X_rng3, ↓X_iA, ↓X_lr1, ↓X_lr2, ↓X_kget, ↓X_make, ↓X_get2, ↓X_get1, ↓X_eDic, ↓LsK_l, ↓X_idx, ↓X_VO, ↓X_BO, ↓X_BFO, ↓X_binO, ↓X_ixO, ↓MuK_own, ↓OwK_own, ↓X_mut, ↓Y_nx, ↓Y_pass, ↓Y_brk, ↓Y_cnt, ↓Y_retN, ↓Y_seq, ↓Y_asg, ↓Y_set, ↓Y_own, ↓Y_dat, ↓Y_dic, ↓Y_ret, ↓Y_expr, ↓Y_if, ↓Y_par, ↓Y_par3, ↓AuK_dat, ↓Y_aug, ↓Y_for, ↓Y_while, ↓Y_setIx, slotAt_eq, slotO_own, slotO_dic, g_N, g_two, g_three, g_T, g_L, g_nil, g_cons, Option.bind_some, Option.map_some, List.getElem?_cons_zero, List.getElem?_cons_succ, List.set_cons_zero, List.set_cons_succ, ↓X_W, ↓DrK_d, ↓WkK_d, ↓RwK_ok, ↓X_fzM, ↓X_prn, ↓X_prc, ↓X_disp, ↓X_vD, ↓X_vO, ↓X_vM, ↓Y_parK, asB_b, asI_i, eqD_ii, neD_ii, ltD_ii, leD_ii, gtD_ii, geD_ii, addD_ii, subD_ii, lenD_l, lenD_t, List.length_map, List.length_range, ↓lt_l0, ↓lt_ls, ↓le_l0, ↓le_ls, ↓ln_p, ↓eq_l0, ↓eq_ls, ↓sm_l, if_true, if_false, decide_true, decide_false, Bool.not_true, Bool.not_false, hd]
        exact ⟨(some _, _), .inl rfl⟩
      · have hd : decide ((0 : Int) < (x : Int)) = true := by simp; omega
        simp only [↓Ep_K, ↓Wp_K, ↓IteK_t, ↓IteK_f, ↓OpK_some, ↓AndK_t, ↓RsK_ok, ↓nxtK_nx, ↓nxtK_rt, ↓nxtK_bk, ↓nxtK_ct, ↓nxtK_ex, ↓VK_dat, ↓VK_own, ↓VK_dic, ↓X_V, ↓X_ret, ↓X_opt, ↓X_bind, ↓X_C, ↓X_nil, ↓X_no, ↓X_some, ↓X_yes, ↓X_cons, ↓X_bin, ↓X_un, ↓X_ix, ↓X_B, ↓X_BF, ↓X_binF, ↓X_tup, ↓X_lst, ↓X_lstF, ↓X_bOf, ↓X_and, ↓X_or, ↓X_not, ↓BoK_b, ↓X_eAnd, ↓X_eOr, ↓X_eNot, ↓X_eIf, ↓X_sl, ↓X_fz, ↓X_chain, ↓X_call, ↓X_meth, ↓X_rng1, ↓X_rng2, ↓X_rng3, ↓X_iA, ↓X_lr1, ↓X_lr2, ↓X_kget, ↓X_make, ↓X_get2, ↓X_get1, ↓X_eDic, ↓LsK_l, ↓X_idx, ↓X_VO, ↓X_BO, ↓X_BFO, ↓X_binO, ↓X_ixO, ↓MuK_own, ↓OwK_own, ↓X_mut, ↓Y_nx, ↓Y_pass, ↓Y_brk, ↓Y_cnt, ↓Y_retN, ↓Y_seq, ↓Y_asg, ↓Y_set, ↓Y_own, ↓Y_dat, ↓Y_dic, ↓Y_ret, ↓Y_expr, ↓Y_if, ↓Y_par, ↓Y_par3, ↓AuK_dat, ↓Y_aug, ↓Y_for, ↓Y_while, ↓Y_setIx, slotAt_eq, slotO_own, slotO_dic, g_N, g_two, g_three, g_T, g_L, g_nil, g_cons, Option.bind_some, Option.map_some, List.getElem?_cons_zero, List.getElem?_cons_succ, List.set_cons_zero, List.set_cons_succ, ↓X_W, ↓DrK_d, ↓WkK_d, ↓RwK_ok, ↓X_fzM, ↓X_prn, ↓X_prc, ↓X_disp, ↓X_vD, ↓X_vO, ↓X_vM, ↓Y_parK, asB_b, asI_i, eqD_ii, neD_ii, ltD_ii, leD_ii, gtD_ii, geD_ii, addD_ii, subD_ii, lenD_l, lenD_t, List.length_map, List.length_range, ↓lt_l0, ↓lt_ls, ↓le_l0, ↓le_ls, ↓ln_p, ↓eq_l0, ↓eq_ls, ↓sm_l, if_true, if_false, decide_true, decide_false, Bool.not_true, Bool.not_false, hd, ob_inverse, inverse_eq hn hx h0, lawF_1, ix_tab hx, LsK_row, inv_idx hn hx h0, neD_i0]
        refine E_mapG nI (List.range (n)) (fun k => .int (fmul n k (finv n x) : Nat)) ?_ (by simp) (by first | rfl | (simp [plainAt, plain_gv]; done) | (simp [plainAt, plain_gv, plainSlot]; done)) (by simp only [List.length_range]; omega) (fun k hk => ?_) ?_
        · simp only [↓Ep_K, ↓Wp_K, ↓IteK_t, ↓IteK_f, ↓OpK_some, ↓AndK_t, ↓RsK_ok, ↓nxtK_nx, ↓nxtK_rt, ↓nxtK_bk, ↓nxtK_ct, ↓nxtK_ex, ↓VK_dat, ↓VK_own, ↓VK_dic, ↓X_V, ↓X_ret, ↓X_opt, ↓X_bind, ↓X_C, ↓X_nil, ↓X_no, ↓X_some, ↓X_yes, ↓X_cons, ↓X_bin, ↓X_un, ↓X_ix, ↓X_B, ↓X_BF, ↓X_binF, ↓X_tup, ↓X_lst, ↓X_lstF, ↓X_bOf, ↓X_and, ↓X_or, ↓X_not, ↓BoK_b, ↓X_eAnd, ↓X_eOr, ↓X_eNot, ↓X_eIf, ↓X_sl, ↓X_fz, ↓X_chain, ↓X_call, ↓X_meth, ↓X_rng1, ↓X_rng2, ↓X_rng3, ↓X_iA, ↓X_lr1, ↓X_lr2, ↓X_kget, ↓X_make, ↓X_get2, ↓X_get1, ↓X_eDic, ↓LsK_l, ↓X_idx, ↓X_VO, ↓X_BO, ↓X_BFO, ↓X_binO, ↓X_ixO, ↓MuK_own, ↓OwK_own, ↓X_mut, ↓Y_nx, ↓Y_pass, ↓Y_brk, ↓Y_cnt, ↓Y_retN, ↓Y_seq, ↓Y_asg, ↓Y_set, ↓Y_own, ↓Y_dat, ↓Y_dic, ↓Y_ret, ↓Y_expr, ↓Y_if, ↓Y_par, ↓Y_par3, ↓AuK_dat, ↓Y_aug, ↓Y_for, ↓Y_while, ↓Y_setIx, slotAt_eq, slotO_own, slotO_dic, g_N, g_two, g_three, g_T, g_L, g_nil, g_cons, Option.bind_some, Option.map_some, List.getElem?_cons_zero, List.getElem?_cons_succ, List.set_cons_zero, List.set_cons_succ, ↓X_W, ↓DrK_d, ↓WkK_d, ↓RwK_ok, ↓X_fzM, ↓X_prn, ↓X_prc, ↓X_disp, ↓X_vD, ↓X_vO, ↓X_vM, ↓Y_parK, asB_b, asI_i, eqD_ii, neD_ii, ltD_ii, leD_ii, gtD_ii, geD_ii, addD_ii, subD_ii, lenD_l, lenD_t, List.length_map, List.length_range, ↓lt_l0, ↓lt_ls, ↓le_l0, ↓le_ls, ↓ln_p, ↓eq_l0, ↓eq_ls, ↓sm_l, if_true, if_false, decide_true, decide_false, Bool.not_true, Bool.not_false, rng1_ok (n := n) (by omega), list_range, and_self]
        · have hk := List.mem_range.mp hk
          simp only [↓Ep_K, ↓Wp_K, ↓IteK_t, ↓IteK_f, ↓OpK_some, ↓AndK_t, ↓RsK_ok, ↓nxtK_nx, ↓nxtK_rt, ↓nxtK_bk, ↓nxtK_ct, ↓nxtK_ex, ↓VK_dat, ↓VK_own, ↓VK_dic, ↓X_V, ↓X_ret, ↓X_opt, ↓X_bind, ↓X_C, ↓X_nil, ↓X_no, ↓X_some, ↓X_yes, ↓X_cons, ↓X_bin, ↓X_un, ↓X_ix, ↓X_B, ↓X_BF, ↓X_binF, ↓X_tup, ↓X_lst, ↓X_lstF, ↓X_bOf, ↓X_and, ↓X_or, ↓X_not, ↓BoK_b, ↓X_eAnd, ↓X_eOr, ↓X_eNot, ↓X_eIf, ↓X_sl, ↓X_fz, ↓X_chain, ↓X_call, ↓X_meth, ↓X_rng1, ↓X_rng2, ↓X_rng3, ↓X_iA, ↓X_lr1, ↓X_lr2, ↓X_kget, ↓X_make, ↓X_get2, ↓X_get1, ↓X_eDic, ↓LsK_l, ↓X_idx, ↓X_VO, ↓X_BO, ↓X_BFO, ↓X_binO, ↓X_ixO, ↓MuK_own, ↓OwK_own, ↓X_mut, ↓Y_nx, ↓Y_pass, ↓Y_brk, ↓Y_cnt, ↓Y_retN, ↓Y_seq, ↓Y_asg, ↓Y_set, ↓Y_own, ↓Y_dat, ↓Y_dic, ↓Y_ret, ↓Y_expr, ↓Y_if, ↓Y_par, ↓Y_par3, ↓AuK_dat, ↓Y_aug, ↓Y_for, ↓Y_while, ↓Y_setIx, slotAt_eq, slotO_own, slotO_dic, g_N, g_two, g_three, g_T, g_L, g_nil, g_cons, Option.bind_some, Option.map_some, List.getElem?_cons_zero, List.getElem?_cons_succ, List.set_cons_zero, List.set_cons_succ, ↓X_W, ↓DrK_d, ↓WkK_d, ↓RwK_ok, ↓X_fzM, ↓X_prn, ↓X_prc, ↓X_disp, ↓X_vD, ↓X_vO, ↓X_vM, ↓Y_parK, asB_b, asI_i, eqD_ii, neD_ii, ltD_ii, leD_ii, gtD_ii, geD_ii, addD_ii, subD_ii, lenD_l, lenD_t, List.length_map, List.length_range, ↓lt_l0, ↓lt_ls, ↓le_l0, ↓le_ls, ↓ln_p, ↓eq_l0, ↓eq_ls, ↓sm_l, if_true, if_false, decide_true, decide_false, Bool.not_true, Bool.not_false, nI_eq, ob_over, over_eq hn hk hx h0, and_self]
        simp only [↓Ep_K, ↓Wp_K, ↓IteK_t, ↓IteK_f, ↓OpK_some, ↓AndK_t, ↓RsK_ok, ↓nxtK_nx, ↓nxtK_rt, ↓nxtK_bk, ↓nxtK_ct, ↓nxtK_ex, ↓VK_dat, ↓VK_own, ↓VK_dic, ↓X_V, ↓X_ret, ↓X_opt, ↓X_bind, ↓X_C, ↓X_nil, ↓X_no, ↓X_some, ↓X_yes, ↓X_cons, ↓X_bin, ↓X_un, ↓X_ix, ↓X_B, ↓X_BF, ↓X_binF, ↓X_tup, ↓X_lst, ↓X_lstF, ↓X_bOf, ↓X_and, ↓X_or, ↓X_not, ↓BoK_b, ↓X_eAnd, ↓X_eOr, ↓X_eNot, ↓X_eIf, ↓X_sl, ↓X_fz, ↓X_chain, ↓X_call, ↓X_meth, ↓X_rng1, ↓X_rng2, ↓X_rng3, ↓X_iA, ↓X_lr1, ↓X_lr2, ↓X_kget, ↓X_make, ↓X_get2, ↓X_get1, ↓X_eDic, ↓LsK_l, ↓X_idx, ↓X_VO, ↓X_BO, ↓X_BFO, ↓X_binO, ↓X_ixO, ↓MuK_own, ↓OwK_own, ↓X_mut, ↓Y_nx, ↓Y_pass, ↓Y_brk, ↓Y_cnt, ↓Y_retN, ↓Y_seq, ↓Y_asg, ↓Y_set, ↓Y_own, ↓Y_dat, ↓Y_dic, ↓Y_ret, ↓Y_expr, ↓Y_if, ↓Y_par, ↓Y_par3, ↓AuK_dat, ↓Y_aug, ↓Y_for, ↓Y_while, ↓Y_setIx, slotAt_eq, slotO_own, slotO_dic, g_N, g_two, g_three, g_T, g_L, g_nil, g_cons, Option.bind_some, Option.map_some, List.getElem?_cons_zero, List.getElem?_cons_succ, List.set_cons_zero, List.set_cons_succ, ↓X_W, ↓DrK_d, ↓WkK_d, ↓RwK_ok, ↓X_fzM, ↓X_prn, ↓X_prc, ↓X_disp, ↓X_vD, ↓X_vO, ↓X_vM, ↓Y_parK, asB_b, asI_i, eqD_ii, neD_ii, ltD_ii, leD_ii, gtD_ii, geD_ii, addD_ii, subD_ii, lenD_l, lenD_t, List.length_map, List.length_range, ↓lt_l0, ↓lt_ls, ↓le_l0, ↓le_ls, ↓ln_p, ↓eq_l0, ↓eq_ls, ↓sm_l, if_true, if_false, decide_true, decide_false, Bool.not_true, Bool.not_false]
        refine E_mapG nI (List.range (n)) (fun k => .int (fmul n k (finv n x) : Nat)) ?_ (by simp) (by first | rfl | (simp [plainAt, plain_gv]; done) | (simp [plainAt, plain_gv, plainSlot]; done)) (by simp only [List.length_range]; omega) (fun k hk => ?_) ?_
        · simp only [↓Ep_K, ↓Wp_K, ↓IteK_t, ↓IteK_f, ↓OpK_some, ↓AndK_t, ↓RsK_ok, ↓nxtK_nx, ↓nxtK_rt, ↓nxtK_bk, ↓nxtK_ct, ↓nxtK_ex, ↓VK_dat, ↓VK_own, ↓VK_dic, ↓X_V, ↓X_ret, ↓X_opt, ↓X_bind, ↓X_C, ↓X_nil, ↓X_no, ↓X_some, ↓X_yes, ↓X_cons, ↓X_bin, ↓X_un, ↓X_ix, ↓X_B, ↓X_BF, ↓X_binF, ↓X_tup, ↓X_lst, ↓X_lstF, ↓X_bOf, ↓X_and, ↓X_or, ↓X_not, ↓BoK_b, ↓X_eAnd, ↓X_eOr, ↓X_eNot, ↓X_eIf, ↓X_sl, ↓X_fz, ↓X_chain, ↓X_call, ↓X_meth, ↓X_rng1, ↓X_rng2, ↓X_rng3, ↓X_iA, ↓X_lr1, ↓X_lr2, ↓X_kget, ↓X_make, ↓X_get2, ↓X_get1, ↓X_eDic, ↓LsK_l, ↓X_idx, ↓X_VO, ↓X_BO, ↓X_BFO, ↓X_binO, ↓X_ixO, ↓MuK_own, ↓OwK_own, ↓X_mut, ↓Y_nx, ↓Y_pass, ↓Y_brk, ↓Y_cnt, ↓Y_retN, ↓Y_seq, ↓Y_asg, ↓Y_set, ↓Y_own, ↓Y_dat, ↓Y_dic, ↓Y_ret, ↓Y_expr, ↓Y_if, ↓Y_par, ↓Y_par3, ↓AuK_dat, ↓Y_aug, ↓Y_for, ↓Y_while, ↓Y_setIx, slotAt_eq, slotO_own, slotO_dic, g_N, g_two, g_three, g_T, g_L, g_nil, g_cons, Option.bind_some, Option.map_some, List.getElem?_cons_zero, List.getElem?_cons_succ, List.set_cons_zero, List.set_cons_succ, ↓X_W, ↓DrK_d, ↓WkK_d, ↓RwK_ok, ↓X_fzM, ↓X_prn, ↓X_prc, ↓X_disp, ↓X_vD, ↓X_vO, ↓X_vM, ↓Y_parK, asB_b, asI_i, eqD_ii, neD_ii, ltD_ii, leD_ii, gtD_ii, geD_ii, addD_ii, subD_ii, lenD_l, lenD_t, List.length_map, List.length_range, ↓lt_l0, ↓lt_ls, ↓le_l0, ↓le_ls, ↓ln_p, ↓eq_l0, ↓eq_ls, ↓sm_l, if_true, if_false, decide_true, decide_false, Bool.not_true, Bool.not_false, rng1_ok (n := n) (by omega), list_range, and_self]
        · have hk := List.mem_range.mp hk
          simp only [↓Ep_K, ↓Wp_K, ↓IteK_t, ↓IteK_f, ↓OpK_some, ↓AndK_t, ↓RsK_ok, ↓nxtK_nx, ↓nxtK_rt, ↓nxtK_bk, ↓nxtK_ct, ↓nxtK_ex, ↓VK_dat, ↓VK_own, ↓VK_dic, ↓X_V, ↓X_ret, ↓X_opt, ↓X_bind, ↓X_C, ↓X_nil, ↓X_no, ↓X_some, ↓X_yes, ↓X_cons, ↓X_bin, ↓X_un, ↓X_ix, ↓X_B, ↓X_BF, ↓X_binF, ↓X_tup, ↓X_lst, ↓X_lstF, ↓X_bOf, ↓X_and, ↓X_or, ↓X_not, ↓BoK_b, ↓X_eAnd, ↓X_eOr, ↓X_eNot, ↓X_eIf, ↓X_sl, ↓X_fz, ↓X_chain, ↓X_call, ↓X_meth, ↓X_rng1, ↓X_rng2, ↓X_rng3, ↓X_iA, ↓X_lr1, ↓X_lr2, ↓X_kget, ↓X_make, ↓X_get2, ↓X_get1, ↓X_eDic, ↓LsK_l, ↓X_idx, ↓X_VO, ↓X_BO, ↓X_BFO, ↓X_binO, ↓X_ixO, ↓MuK_own, ↓OwK_own, ↓X_mut, ↓Y_nx, ↓Y_pass, ↓Y_brk, ↓Y_cnt, ↓Y_retN, ↓Y_seq, ↓Y_asg, ↓Y_set, ↓Y_own, ↓Y_dat, ↓Y_dic, ↓Y_ret, ↓Y_expr, ↓Y_if, ↓Y_par, ↓Y_par3, ↓AuK_dat, ↓Y_aug, ↓Y_for, ↓Y_while, ↓Y_setIx, slotAt_eq, slotO_own, slotO_dic, g_N, g_two, g_three, g_T, g_L, g_nil, g_cons, Option.bind_some, Option.map_some, List.getElem?_cons_zero, List.getElem?_cons_succ, List.set_cons_zero, List.set_cons_succ, ↓X_W, ↓DrK_d, ↓WkK_d, ↓RwK_ok, ↓X_fzM, ↓X_prn, ↓X_prc, ↓X_disp, ↓X_vD, ↓X_vO, ↓X_vM, ↓Y_parK, asB_b, asI_i, eqD_ii, neD_ii, ltD_ii, leD_ii, gtD_ii, geD_ii, addD_ii, subD_ii, lenD_l, lenD_t, List.length_map, List.length_range, ↓lt_l0, ↓lt_ls, ↓le_l0, ↓le_ls, ↓ln_p, ↓eq_l0, ↓eq_ls, ↓sm_l, if_true, if_false, decide_true, decide_false, Bool.not_true, Bool.not_false, nI_eq, lawF_1, ix_tab hx, ix_tab hk, LsK_row, inv_idx hn hx h0, ix_row (inv_facts n hn x hx h0).1, and_self]
        simp only [↓Ep_K, ↓Wp_K, ↓IteK_t, ↓IteK_f, ↓OpK_some, ↓AndK_t, ↓RsK_ok, ↓nxtK_nx, ↓nxtK_rt, ↓nxtK_bk, ↓nxtK_ct, ↓nxtK_ex, ↓VK_dat, ↓VK_own, ↓VK_dic, ↓X_V, ↓X_ret, ↓X_opt, ↓X_bind, ↓X_C, ↓X_nil, ↓X_no, ↓X_some, ↓X_yes, ↓X_cons, ↓X_bin, ↓X_un, ↓X_ix, ↓X_B, ↓X_BF, ↓X_binF, ↓X_tup, ↓X_lst, ↓X_lstF, ↓X_bOf, ↓X_and, ↓X_or, ↓X_not, ↓BoK_b, ↓X_eAnd, ↓X_eOr, ↓X_eNot, ↓X_eIf, ↓X_sl, ↓X_fz, ↓X_chain, ↓X_call, ↓X_meth, ↓X_rng1, ↓X_rng2, ↓X_rng3, ↓X_iA, ↓X_lr1, ↓X_lr2, ↓X_kget, ↓X_make, ↓X_get2, ↓X_get1, ↓X_eDic, ↓LsK_l, ↓X_idx, ↓X_VO, ↓X_BO, ↓X_BFO, ↓X_binO, ↓X_ixO, ↓MuK_own, ↓OwK_own, ↓X_mut, ↓Y_nx, ↓Y_pass, ↓Y_brk, ↓Y_cnt, ↓Y_retN, ↓Y_seq, ↓Y_asg, ↓Y_set, ↓Y_own, ↓Y_dat, ↓Y_dic, ↓Y_ret, ↓Y_expr, ↓Y_if, ↓Y_par, ↓Y_par3, ↓AuK_dat, ↓Y_aug, ↓Y_for, ↓Y_while, ↓Y_setIx, slotAt_eq, slotO_own, slotO_dic, g_N, g_two, g_three, g_T, g_L, g_nil, g_cons, Option.bind_some, Option.map_some, List.getElem?_cons_zero, List.getElem?_cons_succ, List.set_cons_zero, List.set_cons_succ, ↓X_W, ↓DrK_d, ↓WkK_d, ↓RwK_ok, ↓X_fzM, ↓X_prn, ↓X_prc, ↓X_disp, ↓X_vD, ↓X_vO, ↓X_vM, ↓Y_parK, asB_b, asI_i, eqD_ii, neD_ii, ltD_ii, leD_ii, gtD_ii, geD_ii, addD_ii, subD_ii, lenD_l, lenD_t, List.length_map, List.length_range, ↓lt_l0, ↓lt_ls, ↓le_l0, ↓le_ls, ↓ln_p, ↓eq_l0, ↓eq_ls, ↓sm_l, if_true, if_false, decide_true, decide_false, Bool.not_true, Bool.not_false, neD_row2]
        exact ⟨(some _, _), .inl rfl⟩
    simp only [↓Ep_K, ↓Wp_K, ↓IteK_t, ↓IteK_f, ↓OpK_some, ↓AndK_t, ↓RsK_ok, ↓nxtK_nx, ↓nxtK_rt, ↓nxtK_bk, ↓nxtK_ct, ↓nxtK_ex, ↓VK_dat, ↓VK_own, ↓VK_dic, ↓X_V, ↓X_ret, ↓X_opt, ↓X_bind, ↓X_C, ↓X_nil, ↓X_no, ↓X_some, ↓X_yes, ↓X_cons, ↓X_bin, ↓X_un, ↓X_ix, ↓X_B, ↓X_BF, ↓X_binF, ↓X_tup, ↓X_lst, ↓X_lstF, ↓X_bOf, ↓X_and, ↓X_or, ↓X_not, ↓BoK_b, ↓X_eAnd, ↓X_eOr, ↓X_eNot, ↓X_eIf, ↓X_sl, ↓X_fz, ↓X_chain, ↓X_call, ↓X_meth, ↓X_rng1, ↓X_rng2, ↓X_rng3, ↓X_iA, ↓X_lr1, ↓X_lr2, ↓X_kget, ↓X_make, ↓X_get2, ↓X_get1, ↓X_eDic, ↓LsK_l, ↓X_idx, ↓X_VO, ↓X_BO, ↓X_BFO, ↓X_binO, ↓X_ixO, ↓MuK_own, ↓OwK_own, ↓X_mut, ↓Y_nx, ↓Y_pass, ↓Y_brk, ↓Y_cnt, ↓Y_retN, ↓Y_seq, ↓Y_asg, ↓Y_set, ↓Y_own, ↓Y_dat, ↓Y_dic, ↓Y_ret, ↓Y_expr, ↓Y_if, ↓Y_par, ↓Y_par3, ↓AuK_dat, ↓Y_aug, ↓Y_for, ↓Y_while, ↓Y_setIx, slotAt_eq, slotO_own, slotO_dic, g_N, g_two, g_three, g_T, g_L, g_nil, g_cons, Option.bind_some, Option.map_some, List.getElem?_cons_zero, List.getElem?_cons_succ, List.set_cons_zero, List.set_cons_succ, ↓X_W, ↓DrK_d, ↓WkK_d, ↓RwK_ok, ↓X_fzM, ↓X_prn, ↓X_prc, ↓X_disp, ↓X_vD, ↓X_vO, ↓X_vM, ↓Y_parK, asB_b, asI_i, eqD_ii, neD_ii, ltD_ii, leD_ii, gtD_ii, geD_ii, addD_ii, subD_ii, lenD_l, lenD_t, List.length_map, List.length_range, ↓lt_l0, ↓lt_ls, ↓le_l0, ↓le_ls, ↓ln_p, ↓eq_l0, ↓eq_ls, ↓sm_l, if_true, if_false, decide_true, decide_false, Bool.not_true, Bool.not_false]
    refine RwK_take (n := n) h1 (by omega) fun x k2 ns2 h2 hx _ => ?_
    have hx := hx (by omega)
    simp only [↓Ep_K, ↓Wp_K, ↓IteK_t, ↓IteK_f, ↓OpK_some, ↓AndK_t, ↓RsK_ok, ↓nxtK_nx, ↓nxtK_rt, ↓nxtK_bk, ↓nxtK_ct, ↓nxtK_ex, ↓VK_dat, ↓VK_own, ↓VK_dic, ↓X_V, ↓X_ret, ↓X_opt, ↓X_bind, ↓X_C, ↓X_nil, ↓X_no, ↓X_some, ↓X_yes, ↓X_cons, ↓X_bin, ↓X_un, ↓X_ix, ↓X_B, ↓X_BF, ↓X_binF, ↓X_tup, ↓X_lst, ↓X_lstF, ↓X_bOf, ↓X_and, ↓X_or, ↓X_not, ↓BoK_b, ↓X_eAnd, ↓X_eOr, ↓X_eNot, ↓X_eIf, ↓X_sl, ↓X_fz, ↓X_chain, ↓X_call, ↓X_meth, ↓X_rng1, ↓X_rng2, ↓X_rng3, ↓X_iA, ↓X_lr1, ↓X_lr2, ↓X_kget, ↓X_make, ↓X_get2, ↓X_get1, ↓X_eDic, ↓LsK_l, ↓X_idx, ↓X_VO, ↓X_BO, ↓X_BFO, ↓X_binO, ↓X_ixO, ↓MuK_own, ↓OwK_own, ↓X_mut, ↓Y_nx, ↓Y_pass, ↓Y_brk, ↓Y_cnt, ↓Y_retN, ↓Y_seq, ↓Y_asg, ↓Y_set, ↓Y_own, ↓Y_dat, ↓Y_dic, ↓Y_ret, ↓Y_expr, ↓Y_if, ↓Y_par, ↓Y_par3, ↓AuK_dat, ↓Y_aug, ↓Y_for, ↓Y_while, ↓Y_setIx, slotAt_eq, slotO_own, slotO_dic, g_N, g_two, g_three, g_T, g_L, g_nil, g_cons, Option.bind_some, Option.map_some, List.getElem?_cons_zero, List.getElem?_cons_succ, List.set_cons_zero, List.set_cons_succ, ↓X_W, ↓DrK_d, ↓WkK_d, ↓RwK_ok, ↓X_fzM, ↓X_prn, ↓X_prc, ↓X_disp, ↓X_vD, ↓X_vO, ↓X_vM, ↓Y_parK, asB_b, asI_i, eqD_ii, neD_ii, ltD_ii, leD_ii, gtD_ii, geD_ii, addD_ii, subD_ii, lenD_l, lenD_t, List.length_map, List.length_range, ↓lt_l0, ↓lt_ls, ↓le_l0, ↓le_ls, ↓ln_p, ↓eq_l0, ↓eq_ls, ↓sm_l, if_true, if_false, decide_true, decide_false, Bool.not_true, Bool.not_false]
    refine RwK_take (n := n) h2 (by omega) fun y k3 ns3 h3 hy _ => ?_
    have hy := hy (by omega)
    simp only [↓Ep_K, ↓Wp_K, ↓IteK_t, ↓IteK_f, ↓OpK_some, ↓AndK_t, ↓RsK_ok, ↓nxtK_nx, ↓nxtK_rt, ↓nxtK_bk, ↓nxtK_ct, ↓nxtK_ex, ↓VK_dat, ↓VK_own, ↓VK_dic, ↓X_V, ↓X_ret, ↓X_opt, ↓X_bind, ↓X_C, ↓X_nil, ↓X_no, ↓X_some, ↓X_yes, ↓X_cons, ↓X_bin, ↓X_un, ↓X_ix, ↓X_B, ↓X_BF, ↓X_binF, ↓X_tup, ↓X_lst, ↓X_lstF, ↓X_bOf, ↓X_and, ↓X_or, ↓X_not, ↓BoK_b, ↓X_eAnd, ↓X_eOr, ↓X_eNot, ↓X_eIf, ↓X_sl, ↓X_fz, ↓X_chain, ↓X_call, ↓X_meth, ↓X_rng1, ↓X_rng2, ↓X_rng3, ↓X_iA, ↓X_lr1, ↓X_lr2, ↓X_kget, ↓X_make, ↓X_get2, ↓X_get1, ↓X_eDic, ↓LsK_l, ↓X_idx, ↓X_VO, ↓X_BO, ↓X_BFO, ↓X_binO, ↓X_ixO, ↓MuK_own, ↓OwK_own, ↓X_mut, ↓Y_nx, ↓Y_pass, ↓Y_brk, ↓Y_cnt, ↓Y_retN, ↓Y_seq, ↓Y_asg, ↓Y_set, ↓Y_own, ↓Y_dat, ↓Y_dic, ↓Y_ret, ↓Y_expr, ↓Y_if, ↓Y_par, ↓Y_par3, ↓AuK_dat, ↓Y_aug, ↓Y_for, ↓Y_while, ↓Y_setIx, slotAt_eq, slotO_own, slotO_dic, g_N, g_two, g_three, g_T, g_L, g_nil, g_cons, Option.bind_some, Option.map_some, List.getElem?_cons_zero, List.getElem?_cons_succ, List.set_cons_zero, List.set_cons_succ, ↓X_W, ↓DrK_d, ↓WkK_d, ↓RwK_ok, ↓X_fzM, ↓X_prn, ↓X_prc, ↓X_disp, ↓X_vD, ↓X_vO, ↓X_vM, ↓Y_parK, asB_b, asI_i, eqD_ii, neD_ii, ltD_ii, leD_ii, gtD_ii, geD_ii, addD_ii, subD_ii, lenD_l, lenD_t, List.length_map, List.length_range, ↓lt_l0, ↓lt_ls, ↓le_l0, ↓le_ls, ↓ln_p, ↓eq_l0, ↓eq_ls, ↓sm_l, if_true, if_false, decide_true, decide_false, Bool.not_true, Bool.not_false]
    refine RwK_take (n := n) h3 (by omega) fun z k4 ns4 h4 hz _ => ?_
    have hz := hz (by omega)
    obtain ⟨r1, r2, r3⟩ := ring_facts hn hx hy hz
    have a1 := (add_facts n hn y hy z hz).2.1
    have m1 := (mul_facts n hn x hx y hy).2.1
    have m2 := (mul_facts n hn x hx z hz).2.1
    have m3 := (mul_facts n hn y hy z hz).2.1
    simp only [↓Ep_K, ↓Wp_K, ↓IteK_t, ↓IteK_f, ↓OpK_some, ↓AndK_t, ↓RsK_ok, ↓nxtK_nx, ↓nxtK_rt, ↓nxtK_bk, ↓nxtK_ct, ↓nxtK_ex, ↓VK_dat, ↓VK_own, ↓VK_dic, ↓X_V, ↓X_ret, ↓X_opt, ↓X_bind, ↓X_C, ↓X_nil, ↓X_no, ↓X_some, ↓X_yes, ↓X_cons, ↓X_bin, ↓X_un, ↓X_ix, ↓X_B, ↓X_BF, ↓X_binF, ↓X_tup, ↓X_lst, ↓X_lstF, ↓X_bOf, ↓X_and, ↓X_or, ↓X_not, ↓BoK_b, ↓X_eAnd, ↓X_eOr, ↓X_eNot, ↓X_eIf, ↓X_sl, ↓X_fz, ↓X_chain, ↓X_call, ↓X_meth, ↓X_rng1, ↓X_rng2, ↓X_rng3, ↓X_iA, ↓X_lr1, ↓X_lr2, ↓X_kget, ↓X_make, ↓X_get2, ↓X_get1, ↓X_eDic, ↓LsK_l, ↓X_idx, ↓X_VO, ↓X_BO, ↓X_BFO, ↓X_binO, ↓X_ixO, ↓MuK_own, ↓OwK_own, ↓X_mut, ↓Y_nx, ↓Y_pass, ↓Y_brk, ↓Y_cnt, ↓Y_retN, ↓Y_seq, ↓Y_asg, ↓Y_set, ↓Y_own, ↓Y_dat, ↓Y_dic, ↓Y_ret, ↓Y_expr, ↓Y_if, ↓Y_par, ↓Y_par3, ↓AuK_dat, ↓Y_aug, ↓Y_for, ↓Y_while, ↓Y_setIx, slotAt_eq, slotO_own, slotO_dic, g_N, g_two, g_three, g_T, g_L, g_nil, g_cons, Option.bind_some, Option.map_some, List.getElem?_cons_zero, List.getElem?_cons_succ, List.set_cons_zero, List.set_cons_succ, ↓X_W, ↓DrK_d, ↓WkK_d, ↓RwK_ok, ↓X_fzM, ↓X_prn, ↓X_prc, ↓X_disp, ↓X_vD, ↓X_vO, ↓X_vM, ↓Y_parK, asB_b, asI_i, eqD_ii, neD_ii, ltD_ii, leD_ii, gtD_ii, geD_ii, addD_ii, subD_ii, lenD_l, lenD_t, List.length_map, List.length_range, ↓lt_l0, ↓lt_ls, ↓le_l0, ↓le_ls, ↓ln_p, ↓eq_l0, ↓eq_ls, ↓sm_l, if_true, if_false, decide_true, decide_false, Bool.not_true, Bool.not_false, lawF_0, lawF_1, ix_tab hx, ix_tab hy, ix_row hz, ix_row hy, ix_row a1, ix_tab m1, ix_row m2, r3, neD_i0, ob_times, times_eq hn hx hy, times_eq hn m1 hz, times_eq hn hy hz, times_eq hn hx m3, r2]
    refine RwK_takeW h4 (by omega) fun num k5 ns5 h5 hnum _ => ?_
    have hnum := hnum (by omega)
    have hc1 : (n : Int) - 1 = ((n - 1 : Nat) : Int) := by omega
    have hn1 : n - 1 < 2 ^ 900 := by omega
    simp only [↓Ep_K, ↓Wp_K, ↓IteK_t, ↓IteK_f, ↓OpK_some, ↓AndK_t, ↓RsK_ok, ↓nxtK_nx, ↓nxtK_rt, ↓nxtK_bk, ↓nxtK_ct, ↓nxtK_ex, ↓VK_dat, ↓VK_own, ↓VK_dic, ↓X_V, ↓X_ret, ↓X_opt, ↓X_bind, ↓X_C, ↓X_nil, ↓X_no, ↓X_some, ↓X_yes, ↓X_cons, ↓X_bin, ↓X_un, ↓X_ix, ↓X_B, ↓X_BF, ↓X_binF, ↓X_tup, ↓X_lst, ↓X_lstF, ↓X_bOf, ↓X_and, ↓X_or, ↓X_not, ↓BoK_b, ↓X_eAnd, ↓X_eOr, ↓X_eNot, ↓X_eIf, ↓X_sl, ↓X_fz, ↓X_chain, ↓X_call, ↓X_meth, ↓X_rng1, ↓X_rng2, ↓X_rng3, ↓X_iA, ↓X_lr1, ↓X_lr2, ↓X_kget, ↓X_make, ↓X_get2, ↓X_get1, ↓X_eDic, ↓LsK_l, ↓X_idx, ↓X_VO, ↓X_BO, ↓X_BFO, ↓X_binO, ↓X_ixO, ↓MuK_own, ↓OwK_own, ↓X_mut, ↓Y_nx, ↓Y_pass, ↓Y_brk, ↓Y_cnt, ↓Y_retN, ↓Y_seq, ↓Y_asg, ↓Y_set, ↓Y_own, ↓Y_dat, ↓Y_dic, ↓Y_ret, ↓Y_expr, ↓Y_if, ↓Y_par, ↓Y_par3, ↓AuK_dat, ↓Y_aug, ↓Y_for, ↓Y_while, ↓Y_setIx, slotAt_eq, slotO_own, slotO_dic, g_N, g_two, g_three, g_T, g_L, g_nil, g_cons, Option.bind_some, Option.map_some, List.getElem?_cons_zero, List.getElem?_cons_succ, List.set_cons_zero, List.set_cons_succ, ↓X_W, ↓DrK_d, ↓WkK_d, ↓RwK_ok, ↓X_fzM, ↓X_prn, ↓X_prc, ↓X_disp, ↓X_vD, ↓X_vO, ↓X_vM, ↓Y_parK, asB_b, asI_i, eqD_ii, neD_ii, ltD_ii, leD_ii, gtD_ii, geD_ii, addD_ii, subD_ii, lenD_l, lenD_t, List.length_map, List.length_range, ↓lt_l0, ↓lt_ls, ↓le_l0, ↓le_ls, ↓ln_p, ↓eq_l0, ↓eq_ls, ↓sm_l, if_true, if_false, decide_true, decide_false, Bool.not_true, Bool.not_false, ob_power, power_eq hn hx (show num < 2 ^ 900 by omega), law_power_eq hn hx (show num < 1000000 by omega), neD_i0, pw00 hn]
    refine IteK_r ?_ fun hb hY => ?_
    rotate_left
    · have h0 : x ≠ 0 := by
        have := of_decide_eq_true hb
        omega
      have hp : f_Field_power [fieldD n, .int x, .int ((n - 1 : Nat) : Int)] = .ok (.int 1) := by
        rw [power_eq hn hx hn1, pow_facts n hn x hx h0]
        rfl
      simp only [↓Ep_K, ↓Wp_K, ↓IteK_t, ↓IteK_f, ↓OpK_some, ↓AndK_t, ↓RsK_ok, ↓nxtK_nx, ↓nxtK_rt, ↓nxtK_bk, ↓nxtK_ct, ↓nxtK_ex, ↓VK_dat, ↓VK_own, ↓VK_dic, ↓X_V, ↓X_ret, ↓X_opt, ↓X_bind, ↓X_C, ↓X_nil, ↓X_no, ↓X_some, ↓X_yes, ↓X_cons, ↓X_bin, ↓X_un, ↓X_ix, ↓X_B, ↓X_BF, ↓X_binF, ↓X_tup, ↓X_lst, ↓X_lstF, ↓X_bOf, ↓X_and, ↓X_or, ↓X_not, ↓BoK_b, ↓X_eAnd, ↓X_eOr, ↓X_eNot, ↓X_eIf, ↓X_sl, ↓X_fz, ↓X_chain, ↓X_call, ↓X_meth, ↓X_rng1, ↓X_rng2, ↓X_rng3, ↓X_iA, ↓X_lr1, ↓X_lr2, ↓X_kget, ↓X_make, ↓X_get2, ↓X_get1, ↓X_eDic, ↓LsK_l, ↓X_idx, ↓X_VO, ↓X_BO, ↓X_BFO, ↓X_binO, ↓X_ixO, ↓MuK_own, ↓OwK_own, ↓X_mut, ↓Y_nx, ↓Y_pass, ↓Y_brk, ↓Y_cnt, ↓Y_retN, ↓Y_seq, ↓Y_asg, ↓Y_set, ↓Y_own, ↓Y_dat, ↓Y_dic, ↓Y_ret, ↓Y_expr, ↓Y_if, ↓Y_par, ↓Y_par3, ↓AuK_dat, ↓Y_aug, ↓Y_for, ↓Y_while, ↓Y_setIx, slotAt_eq, slotO_own, slotO_dic, g_N, g_two, g_three, g_T, g_L, g_nil, g_cons, Option.bind_some, Option.map_some, List.getElem?_cons_zero, List.getElem?_cons_succ, List.set_cons_zero, List.set_cons_succ, ↓X_W, ↓DrK_d, ↓WkK_d, ↓RwK_ok, ↓X_fzM, ↓X_prn, ↓X_prc, ↓X_disp, ↓X_vD, ↓X_vO, ↓X_vM, ↓Y_parK, asB_b, asI_i, eqD_ii, neD_ii, ltD_ii, leD_ii, gtD_ii, geD_ii, addD_ii, subD_ii, lenD_l, lenD_t, List.length_map, List.length_range, ↓lt_l0, ↓lt_ls, ↓le_l0, ↓le_ls, ↓ln_p, ↓eq_l0, ↓eq_ls, ↓sm_l, if_true, if_false, decide_true, decide_false, Bool.not_true, Bool.not_false, ob_power, hc1, hp, neD_i0] at hY ⊢
      exact hY
    simp only [↓Ep_K, ↓Wp_K, ↓IteK_t, ↓IteK_f, ↓OpK_some, ↓AndK_t, ↓RsK_ok, ↓nxtK_nx, ↓nxtK_rt, ↓nxtK_bk, ↓nxtK_ct, ↓nxtK_ex, ↓VK_dat, ↓VK_own, ↓VK_dic, ↓X_V, ↓X_ret, ↓X_opt, ↓X_bind, ↓X_C, ↓X_nil, ↓X_no, ↓X_some, ↓X_yes, ↓X_cons, ↓X_bin, ↓X_un, ↓X_ix, ↓X_B, ↓X_BF, ↓X_binF, ↓X_tup, ↓X_lst, ↓X_lstF, ↓X_bOf, ↓X_and, ↓X_or, ↓X_not, ↓BoK_b, ↓X_eAnd, ↓X_eOr, ↓X_eNot, ↓X_eIf, ↓X_sl, ↓X_fz, ↓X_chain, ↓X_call, ↓X_meth, ↓X_rng1, ↓X_rng2, ↓X_rng3, ↓X_iA, ↓X_lr1, ↓X_lr2, ↓X_kget, ↓X_make, ↓X_get2, ↓X_get1, ↓X_eDic, ↓LsK_l, ↓X_idx, ↓X_VO, ↓X_BO, ↓X_BFO, ↓X_binO, ↓X_ixO, ↓MuK_own, ↓OwK_own, ↓X_mut, ↓Y_nx, ↓Y_pass, ↓Y_brk, ↓Y_cnt, ↓Y_retN, ↓Y_seq, ↓Y_asg, ↓Y_set, ↓Y_own, ↓Y_dat, ↓Y_dic, ↓Y_ret, ↓Y_expr, ↓Y_if, ↓Y_par, ↓Y_par3, ↓AuK_dat, ↓Y_aug, ↓Y_for, ↓Y_while, ↓Y_setIx, slotAt_eq, slotO_own, slotO_dic, g_N, g_two, g_three, g_T, g_L, g_nil, g_cons, Option.bind_some, Option.map_some, List.getElem?_cons_zero, List.getElem?_cons_succ, List.set_cons_zero, List.set_cons_succ, ↓X_W, ↓DrK_d, ↓WkK_d, ↓RwK_ok, ↓X_fzM, ↓X_prn, ↓X_prc, ↓X_disp, ↓X_vD, ↓X_vO, ↓X_vM, ↓Y_parK, asB_b, asI_i, eqD_ii, neD_ii, ltD_ii, leD_ii, gtD_ii, geD_ii, addD_ii, subD_ii, lenD_l, lenD_t, List.length_map, List.length_range, ↓lt_l0, ↓lt_ls, ↓le_l0, ↓le_ls, ↓ln_p, ↓eq_l0, ↓eq_ls, ↓sm_l, if_true, if_false, decide_true, decide_false, Bool.not_true, Bool.not_false]
    refine E_mapG (fun k => nI (1 + k)) (List.range (n - 1)) (fun k => .int (ford n (1 + k) : Nat)) ?_ (by simp) rfl (by simp only [List.length_range]; omega) (fun k hk => ?_) ?_
    · simp only [↓Ep_K, ↓Wp_K, ↓IteK_t, ↓IteK_f, ↓OpK_some, ↓AndK_t, ↓RsK_ok, ↓nxtK_nx, ↓nxtK_rt, ↓nxtK_bk, ↓nxtK_ct, ↓nxtK_ex, ↓VK_dat, ↓VK_own, ↓VK_dic, ↓X_V, ↓X_ret, ↓X_opt, ↓X_bind, ↓X_C, ↓X_nil, ↓X_no, ↓X_some, ↓X_yes, ↓X_cons, ↓X_bin, ↓X_un, ↓X_ix, ↓X_B, ↓X_BF, ↓X_binF, ↓X_tup, ↓X_lst, ↓X_lstF, ↓X_bOf, ↓X_and, ↓X_or, ↓X_not, ↓BoK_b, ↓X_eAnd, ↓X_eOr, ↓X_eNot, ↓X_eIf, ↓X_sl, ↓X_fz, ↓X_chain, ↓X_call, ↓X_meth, ↓X_rng1, ↓X_rng2, ↓X_rng3, ↓X_iA, ↓X_lr1, ↓X_lr2, ↓X_kget, ↓X_make, ↓X_get2, ↓X_get1, ↓X_eDic, ↓LsK_l, ↓X_idx, ↓X_VO, ↓X_BO, ↓X_BFO, ↓X_binO, ↓X_ixO, ↓MuK_own, ↓OwK_own, ↓X_mut, ↓Y_nx, ↓Y_pass, ↓Y_brk, ↓Y_cnt, ↓Y_retN, ↓Y_seq, ↓Y_asg, ↓Y_set, ↓Y_own, ↓Y_dat, ↓Y_dic, ↓Y_ret, ↓Y_expr, ↓Y_if, ↓Y_par, ↓Y_par3, ↓AuK_dat, ↓Y_aug, ↓Y_for, ↓Y_while, ↓Y_setIx, slotAt_eq, slotO_own, slotO_dic, g_N, g_two, g_three, g_T, g_L, g_nil, g_cons, Option.bind_some, Option.map_some, List.getElem?_cons_zero, List.getElem?_cons_succ, List.set_cons_zero, List.set_cons_succ, ↓X_W, ↓DrK_d, ↓WkK_d, ↓RwK_ok, ↓X_fzM, ↓X_prn, ↓X_prc, ↓X_disp, ↓X_vD, ↓X_vO, ↓X_vM, ↓Y_parK, asB_b, asI_i, eqD_ii, neD_ii, ltD_ii, leD_ii, gtD_ii, geD_ii, addD_ii, subD_ii, lenD_l, lenD_t, List.length_map, List.length_range, ↓lt_l0, ↓lt_ls, ↓le_l0, ↓le_ls, ↓ln_p, ↓eq_l0, ↓eq_ls, ↓sm_l, if_true, if_false, decide_true, decide_false, Bool.not_true, Bool.not_false, rng2_1 (show n < 2 ^ 62 by omega), and_self]
    · have hk := List.mem_range.mp hk
      simp only [↓Ep_K, ↓Wp_K, ↓IteK_t, ↓IteK_f, ↓OpK_some, ↓AndK_t, ↓RsK_ok, ↓nxtK_nx, ↓nxtK_rt, ↓nxtK_bk, ↓nxtK_ct, ↓nxtK_ex, ↓VK_dat, ↓VK_own, ↓VK_dic, ↓X_V, ↓X_ret, ↓X_opt, ↓X_bind, ↓X_C, ↓X_nil, ↓X_no, ↓X_some, ↓X_yes, ↓X_cons, ↓X_bin, ↓X_un, ↓X_ix, ↓X_B, ↓X_BF, ↓X_binF, ↓X_tup, ↓X_lst, ↓X_lstF, ↓X_bOf, ↓X_and, ↓X_or, ↓X_not, ↓BoK_b, ↓X_eAnd, ↓X_eOr, ↓X_eNot, ↓X_eIf, ↓X_sl, ↓X_fz, ↓X_chain, ↓X_call, ↓X_meth, ↓X_rng1, ↓X_rng2, ↓X_rng3, ↓X_iA, ↓X_lr1, ↓X_lr2, ↓X_kget, ↓X_make, ↓X_get2, ↓X_get1, ↓X_eDic, ↓LsK_l, ↓X_idx, ↓X_VO, ↓X_BO, ↓X_BFO, ↓X_binO, ↓X_ixO, ↓MuK_own, ↓OwK_own, ↓X_mut, ↓Y_nx, ↓Y_pass, ↓Y_brk, ↓Y_cnt, ↓Y_retN, ↓Y_seq, ↓Y_asg, ↓Y_set, ↓Y_own, ↓Y_dat, ↓Y_dic, ↓Y_ret, ↓Y_expr, ↓Y_if, ↓Y_par, ↓Y_par3, ↓AuK_dat, ↓Y_aug, ↓Y_for, ↓Y_while, ↓Y_setIx, slotAt_eq, slotO_own, slotO_dic, g_N, g_two, g_three, g_T, g_L, g_nil, g_cons, Option.bind_some, Option.map_some, List.getElem?_cons_zero, List.getElem?_cons_succ, List.set_cons_zero, List.set_cons_succ, ↓X_W, ↓DrK_d, ↓WkK_d, ↓RwK_ok, ↓X_fzM, ↓X_prn, ↓X_prc, ↓X_disp, ↓X_vD, ↓X_vO, ↓X_vM, ↓Y_parK, asB_b, asI_i, eqD_ii, neD_ii, ltD_ii, leD_ii, gtD_ii, geD_ii, addD_ii, subD_ii, lenD_l, lenD_t, List.length_map, List.length_range, ↓lt_l0, ↓lt_ls, ↓le_l0, ↓le_ls, ↓ln_p, ↓eq_l0, ↓eq_ls, ↓sm_l, if_true, if_false, decide_true, decide_false, Bool.not_true, Bool.not_false]
      refine E_selG (fun k => nI (1 + k)) (List.range (n - 1)) (fun j => fpow n (1 + k) (1 + j) == 1) (fun j => nI (1 + j)) ?_ (by simp) rfl (by simp only [List.length_range]; omega) (fun j hj => ?_) (fun j hj _ => ?_) ?_
      · simp only [↓Ep_K, ↓Wp_K, ↓IteK_t, ↓IteK_f, ↓OpK_some, ↓AndK_t, ↓RsK_ok, ↓nxtK_nx, ↓nxtK_rt, ↓nxtK_bk, ↓nxtK_ct, ↓nxtK_ex, ↓VK_dat, ↓VK_own, ↓VK_dic, ↓X_V, ↓X_ret, ↓X_opt, ↓X_bind, ↓X_C, ↓X_nil, ↓X_no, ↓X_some, ↓X_yes, ↓X_cons, ↓X_bin, ↓X_un, ↓X_ix, ↓X_B, ↓X_BF, ↓X_binF, ↓X_tup, ↓X_lst, ↓X_lstF, ↓X_bOf, ↓X_and, ↓X_or, ↓X_not, ↓BoK_b, ↓X_eAnd, ↓X_eOr, ↓X_eNot, ↓X_eIf, ↓X_sl, ↓X_fz, ↓X_chain, ↓X_call, ↓X_meth, ↓X_rng1, ↓X_rng2, ↓X_rng3, ↓X_iA, ↓X_lr1, ↓X_lr2, ↓X_kget, ↓X_make, ↓X_get2, ↓X_get1, ↓X_eDic, ↓LsK_l, ↓X_idx, ↓X_VO, ↓X_BO, ↓X_BFO, ↓X_binO, ↓X_ixO, ↓MuK_own, ↓OwK_own, ↓X_mut, ↓Y_nx, ↓Y_pass, ↓Y_brk, ↓Y_cnt, ↓Y_retN, ↓Y_seq, ↓Y_asg, ↓Y_set, ↓Y_own, ↓Y_dat, ↓Y_dic, ↓Y_ret, ↓Y_expr, ↓Y_if, ↓Y_par, ↓Y_par3, ↓AuK_dat, ↓Y_aug, ↓Y_for, ↓Y_while, ↓Y_setIx, slotAt_eq, slotO_own, slotO_dic, g_N, g_two, g_three, g_T, g_L, g_nil, g_cons, Option.bind_some, Option.map_some, List.getElem?_cons_zero, List.getElem?_cons_succ, List.set_cons_zero, List.set_cons_succ, ↓X_W, ↓DrK_d, ↓WkK_d, ↓RwK_ok, ↓X_fzM, ↓X_prn, ↓X_prc, ↓X_disp, ↓X_vD, ↓X_vO, ↓X_vM, ↓Y_parK, asB_b, asI_i, eqD_ii, neD_ii, ltD_ii, leD_ii, gtD_ii, geD_ii, addD_ii, subD_ii, lenD_l, lenD_t, List.length_map, List.length_range, ↓lt_l0, ↓lt_ls, ↓le_l0, ↓le_ls, ↓ln_p, ↓eq_l0, ↓eq_ls, ↓sm_l, if_true, if_false, decide_true, decide_false, Bool.not_true, Bool.not_false, rng2_1 (show n < 2 ^ 62 by omega), and_self]
      · have hj := List.mem_range.mp hj
        simp only [↓Ep_K, ↓Wp_K, ↓IteK_t, ↓IteK_f, ↓OpK_some, ↓AndK_t, ↓RsK_ok, ↓nxtK_nx, ↓nxtK_rt, ↓nxtK_bk, ↓nxtK_ct, ↓nxtK_ex, ↓VK_dat, ↓VK_own, ↓VK_dic, ↓X_V, ↓X_ret, ↓X_opt, ↓X_bind, ↓X_C, ↓X_nil, ↓X_no, ↓X_some, ↓X_yes, ↓X_cons, ↓X_bin, ↓X_un, ↓X_ix, ↓X_B, ↓X_BF, ↓X_binF, ↓X_tup, ↓X_lst, ↓X_lstF, ↓X_bOf, ↓X_and, ↓X_or, ↓X_not, ↓BoK_b, ↓X_eAnd, ↓X_eOr, ↓X_eNot, ↓X_eIf, ↓X_sl, ↓X_fz, ↓X_chain, ↓X_call, ↓X_meth, ↓X_rng1, ↓X_rng2, ↓X_rng3, ↓X_iA, ↓X_lr1, ↓X_lr2, ↓X_kget, ↓X_make, ↓X_get2, ↓X_get1, ↓X_eDic, ↓LsK_l, ↓X_idx, ↓X_VO, ↓X_BO, ↓X_BFO, ↓X_binO, ↓X_ixO, ↓MuK_own, ↓OwK_own, ↓X_mut, ↓Y_nx, ↓Y_pass, ↓Y_brk, ↓Y_cnt, ↓Y_retN, ↓Y_seq, ↓Y_asg, ↓Y_set, ↓Y_own, ↓Y_dat, ↓Y_dic, ↓Y_ret, ↓Y_expr, ↓Y_if, ↓Y_par, ↓Y_par3, ↓AuK_dat, ↓Y_aug, ↓Y_for, ↓Y_while, ↓Y_setIx, slotAt_eq, slotO_own, slotO_dic, g_N, g_two, g_three, g_T, g_L, g_nil, g_cons, Option.bind_some, Option.map_some, List.getElem?_cons_zero, List.getElem?_cons_succ, List.set_cons_zero, List.set_cons_succ, ↓X_W, ↓DrK_d, ↓WkK_d, ↓RwK_ok, ↓X_fzM, ↓X_prn, ↓X_prc, ↓X_disp, ↓X_vD, ↓X_vO, ↓X_vM, ↓Y_parK, asB_b, asI_i, eqD_ii, neD_ii, ltD_ii, leD_ii, gtD_ii, geD_ii, addD_ii, subD_ii, lenD_l, lenD_t, List.length_map, List.length_range, ↓lt_l0, ↓lt_ls, ↓le_l0, ↓le_ls, ↓ln_p, ↓eq_l0, ↓eq_ls, ↓sm_l, if_true, if_false, decide_true, decide_false, Bool.not_true, Bool.not_false, nI_eq, law_power_eq hn (show 1 + k < n by omega) (show 1 + j < 1000000 by omega), and_true]
        rw [Bool.eq_iff_iff]
        simp
        omega
      · simp only [↓Ep_K, ↓Wp_K, ↓IteK_t, ↓IteK_f, ↓OpK_some, ↓AndK_t, ↓RsK_ok, ↓nxtK_nx, ↓nxtK_rt, ↓nxtK_bk, ↓nxtK_ct, ↓nxtK_ex, ↓VK_dat, ↓VK_own, ↓VK_dic, ↓X_V, ↓X_ret, ↓X_opt, ↓X_bind, ↓X_C, ↓X_nil, ↓X_no, ↓X_some, ↓X_yes, ↓X_cons, ↓X_bin, ↓X_un, ↓X_ix, ↓X_B, ↓X_BF, ↓X_binF, ↓X_tup, ↓X_lst, ↓X_lstF, ↓X_bOf, ↓X_and, ↓X_or, ↓X_not, ↓BoK_b, ↓X_eAnd, ↓X_eOr, ↓X_eNot, ↓X_eIf, ↓X_sl, ↓X_fz, ↓X_chain, ↓X_call, ↓X_meth, ↓X_rng1, ↓X_rng2, ↓X_rng3, ↓X_iA, ↓X_lr1, ↓X_lr2, ↓X_kget, ↓X_make, ↓X_get2, ↓X_get1, ↓X_eDic, ↓LsK_l, ↓X_idx, ↓X_VO, ↓X_BO, ↓X_BFO, ↓X_binO, ↓X_ixO, ↓MuK_own, ↓OwK_own, ↓X_mut, ↓Y_nx, ↓Y_pass, ↓Y_brk, ↓Y_cnt, ↓Y_retN, ↓Y_seq, ↓Y_asg, ↓Y_set, ↓Y_own, ↓Y_dat, ↓Y_dic, ↓Y_ret, ↓Y_expr, ↓Y_if, ↓Y_par, ↓Y_par3, ↓AuK_dat, ↓Y_aug, ↓Y_for, ↓Y_while, ↓Y_setIx, slotAt_eq, slotO_own, slotO_dic, g_N, g_two, g_three, g_T, g_L, g_nil, g_cons, Option.bind_some, Option.map_some, List.getElem?_cons_zero, List.getElem?_cons_succ, List.set_cons_zero, List.set_cons_succ, ↓X_W, ↓DrK_d, ↓WkK_d, ↓RwK_ok, ↓X_fzM, ↓X_prn, ↓X_prc, ↓X_disp, ↓X_vD, ↓X_vO, ↓X_vM, ↓Y_parK, asB_b, asI_i, eqD_ii, neD_ii, ltD_ii, leD_ii, gtD_ii, geD_ii, addD_ii, subD_ii, lenD_l, lenD_t, List.length_map, List.length_range, ↓lt_l0, ↓lt_ls, ↓le_l0, ↓le_ls, ↓ln_p, ↓eq_l0, ↓eq_ls, ↓sm_l, if_true, if_false, decide_true, decide_false, Bool.not_true, Bool.not_false, and_self]
      · have e : ixD (.list (((List.range (n - 1)).filter fun j => fpow n (1 + k) (1 + j) == 1).map fun j => nI (1 + j))) (.int 0) = some (.int (ford n (1 + k) : Nat)) := by
          have e1 := head_ord n hn k hk
          obtain ⟨v, e2, e3⟩ := Option.map_eq_some_iff.mp e1
          refine ixD_l (i := 0) ?_
          rw [List.getElem?_map, e2, ← e3]
          rfl
        simp only [↓Ep_K, ↓Wp_K, ↓IteK_t, ↓IteK_f, ↓OpK_some, ↓AndK_t, ↓RsK_ok, ↓nxtK_nx, ↓nxtK_rt, ↓nxtK_bk, ↓nxtK_ct, ↓nxtK_ex, ↓VK_dat, ↓VK_own, ↓VK_dic, ↓X_V, ↓X_ret, ↓X_opt, ↓X_bind, ↓X_C, ↓X_nil, ↓X_no, ↓X_some, ↓X_yes, ↓X_cons, ↓X_bin, ↓X_un, ↓X_ix, ↓X_B, ↓X_BF, ↓X_binF, ↓X_tup, ↓X_lst, ↓X_lstF, ↓X_bOf, ↓X_and, ↓X_or, ↓X_not, ↓BoK_b, ↓X_eAnd, ↓X_eOr, ↓X_eNot, ↓X_eIf, ↓X_sl, ↓X_fz, ↓X_chain, ↓X_call, ↓X_meth, ↓X_rng1, ↓X_rng2, ↓X_rng3, ↓X_iA, ↓X_lr1, ↓X_lr2, ↓X_kget, ↓X_make, ↓X_get2, ↓X_get1, ↓X_eDic, ↓LsK_l, ↓X_idx, ↓X_VO, ↓X_BO, ↓X_BFO, ↓X_binO, ↓X_ixO, ↓MuK_own, ↓OwK_own, ↓X_mut, ↓Y_nx, ↓Y_pass, ↓Y_brk, ↓Y_cnt, ↓Y_retN, ↓Y_seq, ↓Y_asg, ↓Y_set, ↓Y_own, ↓Y_dat, ↓Y_dic, ↓Y_ret, ↓Y_expr, ↓Y_if, ↓Y_par, ↓Y_par3, ↓AuK_dat, ↓Y_aug, ↓Y_for, ↓Y_while, ↓Y_setIx, slotAt_eq, slotO_own, slotO_dic, g_N, g_two, g_three, g_T, g_L, g_nil, g_cons, Option.bind_some, Option.map_some, List.getElem?_cons_zero, List.getElem?_cons_succ, List.set_cons_zero, List.set_cons_succ, ↓X_W, ↓DrK_d, ↓WkK_d, ↓RwK_ok, ↓X_fzM, ↓X_prn, ↓X_prc, ↓X_disp, ↓X_vD, ↓X_vO, ↓X_vM, ↓Y_parK, asB_b, asI_i, eqD_ii, neD_ii, ltD_ii, leD_ii, gtD_ii, geD_ii, addD_ii, subD_ii, lenD_l, lenD_t, List.length_map, List.length_range, ↓lt_l0, ↓lt_ls, ↓le_l0, ↓le_ls, ↓ln_p, ↓eq_l0, ↓eq_ls, ↓sm_l, if_true, if_false, decide_true, decide_false, Bool.not_true, Bool.not_false, e, and_self]
    simp only [↓Ep_K, ↓Wp_K, ↓IteK_t, ↓IteK_f, ↓OpK_some, ↓AndK_t, ↓RsK_ok, ↓nxtK_nx, ↓nxtK_rt, ↓nxtK_bk, ↓nxtK_ct, ↓nxtK_ex, ↓VK_dat, ↓VK_own, ↓VK_dic, ↓X_V, ↓X_ret, ↓X_opt, ↓X_bind, ↓X_C, ↓X_nil, ↓X_no, ↓X_some, ↓X_yes, ↓X_cons, ↓X_bin, ↓X_un, ↓X_ix, ↓X_B, ↓X_BF, ↓X_binF, ↓X_tup, ↓X_lst, ↓X_lstF, ↓X_bOf, ↓X_and, ↓X_or, ↓X_not, ↓BoK_b, ↓X_eAnd, ↓X_eOr, ↓X_eNot, ↓X_eIf, ↓X_sl, ↓X_fz, ↓X_chain, ↓X_call, ↓X_meth, ↓X_rng1, ↓X_rng2, ↓X_rng3, ↓X_iA, ↓X_lr1, ↓X_lr2, ↓X_kget, ↓X_make, ↓X_get2, ↓X_get1, ↓X_eDic, ↓LsK_l, ↓X_idx, ↓X_VO, ↓X_BO, ↓X_BFO, ↓X_binO, ↓X_ixO, ↓MuK_own, ↓OwK_own, ↓X_mut, ↓Y_nx, ↓Y_pass, ↓Y_brk, ↓Y_cnt, ↓Y_retN, ↓Y_seq, ↓Y_asg, ↓Y_set, ↓Y_own, ↓Y_dat, ↓Y_dic, ↓Y_ret, ↓Y_expr, ↓Y_if, ↓Y_par, ↓Y_par3, ↓AuK_dat, ↓Y_aug, ↓Y_for, ↓Y_while, ↓Y_setIx, slotAt_eq, slotO_own, slotO_dic, g_N, g_two, g_three, g_T, g_L, g_nil, g_cons, Option.bind_some, Option.map_some, List.getElem?_cons_zero, List.getElem?_cons_succ, List.set_cons_zero, List.set_cons_succ, ↓X_W, ↓DrK_d, ↓WkK_d, ↓RwK_ok, ↓X_fzM, ↓X_prn, ↓X_prc, ↓X_disp, ↓X_vD, ↓X_vO, ↓X_vM, ↓Y_parK, asB_b, asI_i, eqD_ii, neD_ii, ltD_ii, leD_ii, gtD_ii, geD_ii, addD_ii, subD_ii, lenD_l, lenD_t, List.length_map, List.length_range, ↓lt_l0, ↓lt_ls, ↓le_l0, ↓le_ls, ↓ln_p, ↓eq_l0, ↓eq_ls, ↓sm_l, if_true, if_false, decide_true, decide_false, Bool.not_true, Bool.not_false]
    refine E_mapG (fun k => nI (1 + k)) (List.range (n - 1)) (fun k => .int (ford n (1 + k) : Nat)) ?_ (by simp) (by first | rfl | (simp [plainAt, plain_gv]; done) | (simp [plainAt, plain_gv, plainSlot]; done)) (by simp only [List.length_range]; omega) (fun k hk => ?_) ?_
    · simp only [↓Ep_K, ↓Wp_K, ↓IteK_t, ↓IteK_f, ↓OpK_some, ↓AndK_t, ↓RsK_ok, ↓nxtK_nx, ↓nxtK_rt, ↓nxtK_bk, ↓nxtK_ct, ↓nxtK_ex, ↓VK_dat, ↓VK_own, ↓VK_dic, ↓X_V, ↓X_ret, ↓X_opt, ↓X_bind, ↓X_C, ↓X_nil, ↓X_no, ↓X_some, ↓X_yes, ↓X_cons, ↓X_bin, ↓X_un, ↓X_ix, ↓X_B, ↓X_BF, ↓X_binF, ↓X_tup, ↓X_lst, ↓X_lstF, ↓X_bOf, ↓X_and, ↓X_or, ↓X_not, ↓BoK_b, ↓X_eAnd, ↓X_eOr, ↓X_eNot, ↓X_eIf, ↓X_sl, ↓X_fz, ↓X_chain, ↓X_call, ↓X_meth, ↓X_rng1, ↓X_rng2, ↓X_rng3, ↓X_iA, ↓X_lr1, ↓X_lr2, ↓X_kget, ↓X_make, ↓X_get2, ↓X_get1, ↓X_eDic, ↓LsK_l, ↓X_idx, ↓X_VO, ↓X_BO, ↓X_BFO, ↓X_binO, ↓X_ixO, ↓MuK_own, ↓OwK_own, ↓X_mut, ↓Y_nx, ↓Y_pass, ↓Y_brk, ↓Y_cnt, ↓Y_retN, ↓Y_seq, ↓Y_asg, ↓Y_set, ↓Y_own, ↓Y_dat, ↓Y_dic, ↓Y_ret, ↓Y_expr, ↓Y_if, ↓Y_par, ↓Y_par3, ↓AuK_dat, ↓Y_aug, ↓Y_for, ↓Y_while, ↓Y_setIx, slotAt_eq, slotO_own, slotO_dic, g_N, g_two, g_three, g_T, g_L, g_nil, g_cons, Option.bind_some, Option.map_some, List.getElem?_cons_zero, List.getElem?_cons_succ, List.set_cons_zero, List.set_cons_succ, ↓X_W, ↓DrK_d, ↓WkK_d, ↓RwK_ok, ↓X_fzM, ↓X_prn, ↓X_prc, ↓X_disp, ↓X_vD, ↓X_vO, ↓X_vM, ↓Y_parK, asB_b, asI_i, eqD_ii, neD_ii, ltD_ii, leD_ii, gtD_ii, geD_ii, addD_ii, subD_ii, lenD_l, lenD_t, List.length_map, List.length_range, ↓lt_l0, ↓lt_ls, ↓le_l0, ↓le_ls, ↓ln_p, ↓eq_l0, ↓eq_ls, ↓sm_l, if_true, if_false, decide_true, decide_false, Bool.not_true, Bool.not_false, rng2_1 (show n < 2 ^ 62 by omega), and_self]
    · have hk := List.mem_range.mp hk
      simp only [↓Ep_K, ↓Wp_K, ↓IteK_t, ↓IteK_f, ↓OpK_some, ↓AndK_t, ↓RsK_ok, ↓nxtK_nx, ↓nxtK_rt, ↓nxtK_bk, ↓nxtK_ct, ↓nxtK_ex, ↓VK_dat, ↓VK_own, ↓VK_dic, ↓X_V, ↓X_ret, ↓X_opt, ↓X_bind, ↓X_C, ↓X_nil, ↓X_no, ↓X_some, ↓X_yes, ↓X_cons, ↓X_bin, ↓X_un, ↓X_ix, ↓X_B, ↓X_BF, ↓X_binF, ↓X_tup, ↓X_lst, ↓X_lstF, ↓X_bOf, ↓X_and, ↓X_or, ↓X_not, ↓BoK_b, ↓X_eAnd, ↓X_eOr, ↓X_eNot, ↓X_eIf, ↓X_sl, ↓X_fz, ↓X_chain, ↓X_call, ↓X_meth, ↓X_rng1, ↓X_rng2, ↓X_rng3, ↓X_iA, ↓X_lr1, ↓X_lr2, ↓X_kget, ↓X_make, ↓X_get2, ↓X_get1, ↓X_eDic, ↓LsK_l, ↓X_idx, ↓X_VO, ↓X_BO, ↓X_BFO, ↓X_binO, ↓X_ixO, ↓MuK_own, ↓OwK_own, ↓X_mut, ↓Y_nx, ↓Y_pass, ↓Y_brk, ↓Y_cnt, ↓Y_retN, ↓Y_seq, ↓Y_asg, ↓Y_set, ↓Y_own, ↓Y_dat, ↓Y_dic, ↓Y_ret, ↓Y_expr, ↓Y_if, ↓Y_par, ↓Y_par3, ↓AuK_dat, ↓Y_aug, ↓Y_for, ↓Y_while, ↓Y_setIx, slotAt_eq, slotO_own, slotO_dic, g_N, g_two, g_three, g_T, g_L, g_nil, g_cons, Option.bind_some, Option.map_some, List.getElem?_cons_zero, List.getElem?_cons_succ, List.set_cons_zero, List.set_cons_succ, ↓X_W, ↓DrK_d, ↓WkK_d, ↓RwK_ok, ↓X_fzM, ↓X_prn, ↓X_prc, ↓X_disp, ↓X_vD, ↓X_vO, ↓X_vM, ↓Y_parK, asB_b, asI_i, eqD_ii, neD_ii, ltD_ii, leD_ii, gtD_ii, geD_ii, addD_ii, subD_ii, lenD_l, lenD_t, List.length_map, List.length_range, ↓lt_l0, ↓lt_ls, ↓le_l0, ↓le_ls, ↓ln_p, ↓eq_l0, ↓eq_ls, ↓sm_l, if_true, if_false, decide_true, decide_false, Bool.not_true, Bool.not_false, nI_eq, ob_order, order_eq hn (show 1 + k < n by omega) (show 1 + k ≠ 0 by omega), and_self]
    have hgen : (fgens n).map nI = ((List.range (n - 1)).filter fun k => ford n (1 + k) == n - 1).map fun k => nI (1 + k) := by
      unfold fgens
      rw [List.filter_map, List.map_map]
      rfl
    have hgg : neD (.list ((fgens n).map nI)) (.list ((fgens n).map nI)) = some (.bool false) := by
      rw [neD_lN]
      simp
    simp only [↓Ep_K, ↓Wp_K, ↓IteK_t, ↓IteK_f, ↓OpK_some, ↓AndK_t, ↓RsK_ok, ↓nxtK_nx, ↓nxtK_rt, ↓nxtK_bk, ↓nxtK_ct, ↓nxtK_ex, ↓VK_dat, ↓VK_own, ↓VK_dic, ↓X_V, ↓X_ret, ↓X_opt, ↓X_bind, ↓X_C, ↓X_nil, ↓X_no, ↓X_some, ↓X_yes, ↓X_cons, ↓X_bin, ↓X_un, ↓X_ix, ↓X_B, ↓X_BF, ↓X_binF, ↓X_tup, ↓X_lst, ↓X_lstF, ↓X_bOf, ↓X_and, ↓X_or, ↓X_not, ↓BoK_b, ↓X_eAnd, ↓X_eOr, ↓X_eNot, ↓X_eIf, ↓X_sl, ↓X_fz, ↓X_chain, ↓X_call, ↓X_meth, ↓X_rng1, ↓X_rng2, ↓X_rng3, ↓X_iA, ↓X_lr1, ↓X_lr2, ↓X_kget, ↓X_make, ↓X_get2, ↓X_get1, ↓X_eDic, ↓LsK_l, ↓X_idx, ↓X_VO, ↓X_BO, ↓X_BFO, ↓X_binO, ↓X_ixO, ↓MuK_own, ↓OwK_own, ↓X_mut, ↓Y_nx, ↓Y_pass, ↓Y_brk, ↓Y_cnt, ↓Y_retN, ↓Y_seq, ↓Y_asg, ↓Y_set, ↓Y_own, ↓Y_dat, ↓Y_dic, ↓Y_ret, ↓Y_expr, ↓Y_if, ↓Y_par, ↓Y_par3, ↓AuK_dat, ↓Y_aug, ↓Y_for, ↓Y_while, ↓Y_setIx, slotAt_eq, slotO_own, slotO_dic, g_N, g_two, g_three, g_T, g_L, g_nil, g_cons, Option.bind_some, Option.map_some, List.getElem?_cons_zero, List.getElem?_cons_succ, List.set_cons_zero, List.set_cons_succ, ↓X_W, ↓DrK_d, ↓WkK_d, ↓RwK_ok, ↓X_fzM, ↓X_prn, ↓X_prc, ↓X_disp, ↓X_vD, ↓X_vO, ↓X_vM, ↓Y_parK, asB_b, asI_i, eqD_ii, neD_ii, ltD_ii, leD_ii, gtD_ii, geD_ii, addD_ii, subD_ii, lenD_l, lenD_t, List.length_map, List.length_range, ↓lt_l0, ↓lt_ls, ↓le_l0, ↓le_ls, ↓ln_p, ↓eq_l0, ↓eq_ls, ↓sm_l, if_true, if_false, decide_true, decide_false, Bool.not_true, Bool.not_false, neD_row2, ob_generators, generators_eq hn]
    refine E_selG (fun k => nI (1 + k)) (List.range (n - 1)) (fun k => ford n (1 + k) == n - 1) (fun k => nI (1 + k)) ?_ (by simp) rfl (by simp only [List.length_range]; omega) (fun k hk => ?_) (fun k hk _ => ?_) ?_
    · simp only [↓Ep_K, ↓Wp_K, ↓IteK_t, ↓IteK_f, ↓OpK_some, ↓AndK_t, ↓RsK_ok, ↓nxtK_nx, ↓nxtK_rt, ↓nxtK_bk, ↓nxtK_ct, ↓nxtK_ex, ↓VK_dat, ↓VK_own, ↓VK_dic, ↓X_V, ↓X_ret, ↓X_opt, ↓X_bind, ↓X_C, ↓X_nil, ↓X_no, ↓X_some, ↓X_yes, ↓X_cons, ↓X_bin, ↓X_un, ↓X_ix, ↓X_B, ↓X_BF, ↓X_binF, ↓X_tup, ↓X_lst, ↓X_lstF, ↓X_bOf, ↓X_and, ↓X_or, ↓X_not, ↓BoK_b, ↓X_eAnd, ↓X_eOr, ↓X_eNot, ↓X_eIf, ↓X_sl, ↓X_fz, ↓X_chain, ↓X_call, ↓X_meth, ↓X_rng1, ↓X_rng2, ↓X_rng3, ↓X_iA, ↓X_lr1, ↓X_lr2, ↓X_kget, ↓X_make, ↓X_get2, ↓X_get1, ↓X_eDic, ↓LsK_l, ↓X_idx, ↓X_VO, ↓X_BO, ↓X_BFO, ↓X_binO, ↓X_ixO, ↓MuK_own, ↓OwK_own, ↓X_mut, ↓Y_nx, ↓Y_pass, ↓Y_brk, ↓Y_cnt, ↓Y_retN, ↓Y_seq, ↓Y_asg, ↓Y_set, ↓Y_own, ↓Y_dat, ↓Y_dic, ↓Y_ret, ↓Y_expr, ↓Y_if, ↓Y_par, ↓Y_par3, ↓AuK_dat, ↓Y_aug, ↓Y_for, ↓Y_while, ↓Y_setIx, slotAt_eq, slotO_own, slotO_dic, g_N, g_two, g_three, g_T, g_L, g_nil, g_cons, Option.bind_some, Option.map_some, List.getElem?_cons_zero, List.getElem?_cons_succ, List.set_cons_zero, List.set_cons_succ, ↓X_W, ↓DrK_d, ↓WkK_d, ↓RwK_ok, ↓X_fzM, ↓X_prn, ↓X_prc, ↓X_disp, ↓X_vD, ↓X_vO, ↓X_vM, ↓Y_parK, asB_b, asI_i, eqD_ii, neD_ii, ltD_ii, leD_ii, gtD_ii, geD_ii, addD_ii, subD_ii, lenD_l, lenD_t, List.length_map, List.length_range, ↓lt_l0, ↓lt_ls, ↓le_l0, ↓le_ls, ↓ln_p, ↓eq_l0, ↓eq_ls, ↓sm_l, if_true, if_false, decide_true, decide_false, Bool.not_true, Bool.not_false, rng2_1 (show n < 2 ^ 62 by omega), and_self]
    · have hk := List.mem_range.mp hk
      have hc : ((1 + k : Nat) : Int) - 1 = (k : Nat) := by omega
      simp only [↓Ep_K, ↓Wp_K, ↓IteK_t, ↓IteK_f, ↓OpK_some, ↓AndK_t, ↓RsK_ok, ↓nxtK_nx, ↓nxtK_rt, ↓nxtK_bk, ↓nxtK_ct, ↓nxtK_ex, ↓VK_dat, ↓VK_own, ↓VK_dic, ↓X_V, ↓X_ret, ↓X_opt, ↓X_bind, ↓X_C, ↓X_nil, ↓X_no, ↓X_some, ↓X_yes, ↓X_cons, ↓X_bin, ↓X_un, ↓X_ix, ↓X_B, ↓X_BF, ↓X_binF, ↓X_tup, ↓X_lst, ↓X_lstF, ↓X_bOf, ↓X_and, ↓X_or, ↓X_not, ↓BoK_b, ↓X_eAnd, ↓X_eOr, ↓X_eNot, ↓X_eIf, ↓X_sl, ↓X_fz, ↓X_chain, ↓X_call, ↓X_meth, ↓X_rng1, ↓X_rng2, ↓X_rng3, ↓X_iA, ↓X_lr1, ↓X_lr2, ↓X_kget, ↓X_make, ↓X_get2, ↓X_get1, ↓X_eDic, ↓LsK_l, ↓X_idx, ↓X_VO, ↓X_BO, ↓X_BFO, ↓X_binO, ↓X_ixO, ↓MuK_own, ↓OwK_own, ↓X_mut, ↓Y_nx, ↓Y_pass, ↓Y_brk, ↓Y_cnt, ↓Y_retN, ↓Y_seq, ↓Y_asg, ↓Y_set, ↓Y_own, ↓Y_dat, ↓Y_dic, ↓Y_ret, ↓Y_expr, ↓Y_if, ↓Y_par, ↓Y_par3, ↓AuK_dat, ↓Y_aug, ↓Y_for, ↓Y_while, ↓Y_setIx, slotAt_eq, slotO_own, slotO_dic, g_N, g_two, g_three, g_T, g_L, g_nil, g_cons, Option.bind_some, Option.map_some, List.getElem?_cons_zero, List.getElem?_cons_succ, List.set_cons_zero, List.set_cons_succ, ↓X_W, ↓DrK_d, ↓WkK_d, ↓RwK_ok, ↓X_fzM, ↓X_prn, ↓X_prc, ↓X_disp, ↓X_vD, ↓X_vO, ↓X_vM, ↓Y_parK, asB_b, asI_i, eqD_ii, neD_ii, ltD_ii, leD_ii, gtD_ii, geD_ii, addD_ii, subD_ii, lenD_l, lenD_t, List.length_map, List.length_range, ↓lt_l0, ↓lt_ls, ↓le_l0, ↓le_ls, ↓ln_p, ↓eq_l0, ↓eq_ls, ↓sm_l, if_true, if_false, decide_true, decide_false, Bool.not_true, Bool.not_false, nI_eq, hc, hc1, ix_rowL (g := fun k => ford n (1 + k)) hk, and_true]
      rw [Bool.eq_iff_iff]
      simp
      omega
    · simp only [↓Ep_K, ↓Wp_K, ↓IteK_t, ↓IteK_f, ↓OpK_some, ↓AndK_t, ↓RsK_ok, ↓nxtK_nx, ↓nxtK_rt, ↓nxtK_bk, ↓nxtK_ct, ↓nxtK_ex, ↓VK_dat, ↓VK_own, ↓VK_dic, ↓X_V, ↓X_ret, ↓X_opt, ↓X_bind, ↓X_C, ↓X_nil, ↓X_no, ↓X_some, ↓X_yes, ↓X_cons, ↓X_bin, ↓X_un, ↓X_ix, ↓X_B, ↓X_BF, ↓X_binF, ↓X_tup, ↓X_lst, ↓X_lstF, ↓X_bOf, ↓X_and, ↓X_or, ↓X_not, ↓BoK_b, ↓X_eAnd, ↓X_eOr, ↓X_eNot, ↓X_eIf, ↓X_sl, ↓X_fz, ↓X_chain, ↓X_call, ↓X_meth, ↓X_rng1, ↓X_rng2, ↓X_rng3, ↓X_iA, ↓X_lr1, ↓X_lr2, ↓X_kget, ↓X_make, ↓X_get2, ↓X_get1, ↓X_eDic, ↓LsK_l, ↓X_idx, ↓X_VO, ↓X_BO, ↓X_BFO, ↓X_binO, ↓X_ixO, ↓MuK_own, ↓OwK_own, ↓X_mut, ↓Y_nx, ↓Y_pass, ↓Y_brk, ↓Y_cnt, ↓Y_retN, ↓Y_seq, ↓Y_asg, ↓Y_set, ↓Y_own, ↓Y_dat, ↓Y_dic, ↓Y_ret, ↓Y_expr, ↓Y_if, ↓Y_par, ↓Y_par3, ↓AuK_dat, ↓Y_aug, ↓Y_for, ↓Y_while, ↓Y_setIx, slotAt_eq, slotO_own, slotO_dic, g_N, g_two, g_three, g_T, g_L, g_nil, g_cons, Option.bind_some, Option.map_some, List.getElem?_cons_zero, List.getElem?_cons_succ, List.set_cons_zero, List.set_cons_succ, ↓X_W, ↓DrK_d, ↓WkK_d, ↓RwK_ok, ↓X_fzM, ↓X_prn, ↓X_prc, ↓X_disp, ↓X_vD, ↓X_vO, ↓X_vM, ↓Y_parK, asB_b, asI_i, eqD_ii, neD_ii, ltD_ii, leD_ii, gtD_ii, geD_ii, addD_ii, subD_ii, lenD_l, lenD_t, List.length_map, List.length_range, ↓lt_l0, ↓lt_ls, ↓le_l0, ↓le_ls, ↓ln_p, ↓eq_l0, ↓eq_ls, ↓sm_l, if_true, if_false, decide_true, decide_false, Bool.not_true, Bool.not_false, and_self]
    simp only [↓Ep_K, ↓Wp_K, ↓IteK_t, ↓IteK_f, ↓OpK_some, ↓AndK_t, ↓RsK_ok, ↓nxtK_nx, ↓nxtK_rt, ↓nxtK_bk, ↓nxtK_ct, ↓nxtK_ex, ↓VK_dat, ↓VK_own, ↓VK_dic, ↓X_V, ↓X_ret, ↓X_opt, ↓X_bind, ↓X_C, ↓X_nil, ↓X_no, ↓X_some, ↓X_yes, ↓X_cons, ↓X_bin, ↓X_un, ↓X_ix, ↓X_B, ↓X_BF, ↓X_binF, ↓X_tup, ↓X_lst, ↓X_lstF, ↓X_bOf, ↓X_and, ↓X_or, ↓X_not, ↓BoK_b, ↓X_eAnd, ↓X_eOr, ↓X_eNot, ↓X_eIf, ↓X_sl, ↓X_fz, ↓X_chain, ↓X_call, ↓X_meth, ↓X_rng1, ↓X_rng2, ↓X_rng3, ↓X_iA, ↓X_lr1, ↓X_lr2, ↓X_kget, ↓X_make, ↓X_get2, ↓X_get1, ↓X_eDic, ↓LsK_l, ↓X_idx, ↓X_VO, ↓X_BO, ↓X_BFO, ↓X_binO, ↓X_ixO, ↓MuK_own, ↓OwK_own, ↓X_mut, ↓Y_nx, ↓Y_pass, ↓Y_brk, ↓Y_cnt, ↓Y_retN, ↓Y_seq, ↓Y_asg, ↓Y_set, ↓Y_own, ↓Y_dat, ↓Y_dic, ↓Y_ret, ↓Y_expr, ↓Y_if, ↓Y_par, ↓Y_par3, ↓AuK_dat, ↓Y_aug, ↓Y_for, ↓Y_while, ↓Y_setIx, slotAt_eq, slotO_own, slotO_dic, g_N, g_two, g_three, g_T, g_L, g_nil, g_cons, Option.bind_some, Option.map_some, List.getElem?_cons_zero, List.getElem?_cons_succ, List.set_cons_zero, List.set_cons_succ, ↓X_W, ↓DrK_d, ↓WkK_d, ↓RwK_ok, ↓X_fzM, ↓X_prn, ↓X_prc, ↓X_disp, ↓X_vD, ↓X_vO, ↓X_vM, ↓Y_parK, asB_b, asI_i, eqD_ii, neD_ii, ltD_ii, leD_ii, gtD_ii, geD_ii, addD_ii, subD_ii, lenD_l, lenD_t, List.length_map, List.length_range, ↓lt_l0, ↓lt_ls, ↓le_l0, ↓le_ls, ↓ln_p, ↓eq_l0, ↓eq_ls, ↓sm_l, if_true, if_false, decide_true, decide_false, Bool.not_true, Bool.not_false, ← hgen, hgg, ob_generators, generators_eq hn]
    have hgl : (fgens n).length ≤ 1000000 := by
      have h : (fgens n).length ≤ n - 1 := by
        unfold fgens
        refine Nat.le_trans (List.length_filter_le _ _) ?_
        simp
      omega
    refine pick_ok nI (.inl rfl) h5 (gens_ne n hn) hgl fun g hg k6 ns6 h6 => ?_
    have hgl := fgens_lt hg
    simp only [↓Ep_K, ↓Wp_K, ↓IteK_t, ↓IteK_f, ↓OpK_some, ↓AndK_t, ↓RsK_ok, ↓nxtK_nx, ↓nxtK_rt, ↓nxtK_bk, ↓nxtK_ct, ↓nxtK_ex, ↓VK_dat, ↓VK_own, ↓VK_dic, ↓X_V, ↓X_ret, ↓X_opt, ↓X_bind, ↓X_C, ↓X_nil, ↓X_no, ↓X_some, ↓X_yes, ↓X_cons, ↓X_bin, ↓X_un, ↓X_ix, ↓X_B, ↓X_BF, ↓X_binF, ↓X_tup, ↓X_lst, ↓X_lstF, ↓X_bOf, ↓X_and, ↓X_or, ↓X_not, ↓BoK_b, ↓X_eAnd, ↓X_eOr, ↓X_eNot, ↓X_eIf, ↓X_sl, ↓X_fz, ↓X_chain, ↓X_call, ↓X_meth, ↓X_rng1, ↓X_rng2, ↓X_rng3, ↓X_iA, ↓X_lr1, ↓X_lr2, ↓X_kget, ↓X_make, ↓X_get2, ↓X_get1, ↓X_eDic, ↓LsK_l, ↓X_idx, ↓X_VO, ↓X_BO, ↓X_BFO, ↓X_binO, ↓X_ixO, ↓MuK_own, ↓OwK_own, ↓X_mut, ↓Y_nx, ↓Y_pass, ↓Y_brk, ↓Y_cnt, ↓Y_retN, ↓Y_seq, ↓Y_asg, ↓Y_set, ↓Y_own, ↓Y_dat, ↓Y_dic, ↓Y_ret, ↓Y_expr, ↓Y_if, ↓Y_par, ↓Y_par3, ↓AuK_dat, ↓Y_aug, ↓Y_for, ↓Y_while, ↓Y_setIx, slotAt_eq, slotO_own, slotO_dic, g_N, g_two, g_three, g_T, g_L, g_nil, g_cons, Option.bind_some, Option.map_some, List.getElem?_cons_zero, List.getElem?_cons_succ, List.set_cons_zero, List.set_cons_succ, ↓X_W, ↓DrK_d, ↓WkK_d, ↓RwK_ok, ↓X_fzM, ↓X_prn, ↓X_prc, ↓X_disp, ↓X_vD, ↓X_vO, ↓X_vM, ↓Y_parK, asB_b, asI_i, eqD_ii, neD_ii, ltD_ii, leD_ii, gtD_ii, geD_ii, addD_ii, subD_ii, lenD_l, lenD_t, List.length_map, List.length_range, ↓lt_l0, ↓lt_ls, ↓le_l0, ↓le_ls, ↓ln_p, ↓eq_l0, ↓eq_ls, ↓sm_l, if_true, if_false, decide_true, decide_false, Bool.not_true, Bool.not_false, nI_eq]
    refine E_mapG (fun k => nI (1 + k)) (List.range (n - 1)) (fun k => .int (1 + k : Nat)) ?_ (by simp) (by first | rfl | (simp [plainAt, plain_gv]; done) | (simp [plainAt, plain_gv, plainSlot]; done)) (by simp only [List.length_range]; omega) (fun k hk => ?_) ?_
    · simp only [↓Ep_K, ↓Wp_K, ↓IteK_t, ↓IteK_f, ↓OpK_some, ↓AndK_t, ↓RsK_ok, ↓nxtK_nx, ↓nxtK_rt, ↓nxtK_bk, ↓nxtK_ct, ↓nxtK_ex, ↓VK_dat, ↓VK_own, ↓VK_dic, ↓X_V, ↓X_ret, ↓X_opt, ↓X_bind, ↓X_C, ↓X_nil, ↓X_no, ↓X_some, ↓X_yes, ↓X_cons, ↓X_bin, ↓X_un, ↓X_ix, ↓X_B, ↓X_BF, ↓X_binF, ↓X_tup, ↓X_lst, ↓X_lstF, ↓X_bOf, ↓X_and, ↓X_or, ↓X_not, ↓BoK_b, ↓X_eAnd, ↓X_eOr, ↓X_eNot, ↓X_eIf, ↓X_sl, ↓X_fz, ↓X_chain, ↓X_call, ↓X_meth, ↓X_rng1, ↓X_rng2, ↓X_rng3, ↓X_iA, ↓X_lr1, ↓X_lr2, ↓X_kget, ↓X_make, ↓X_get2, ↓X_get1, ↓X_eDic, ↓LsK_l, ↓X_idx, ↓X_VO, ↓X_BO, ↓X_BFO, ↓X_binO, ↓X_ixO, ↓MuK_own, ↓OwK_own, ↓X_mut, ↓Y_nx, ↓Y_pass, ↓Y_brk, ↓Y_cnt, ↓Y_retN, ↓Y_seq, ↓Y_asg, ↓Y_set, ↓Y_own, ↓Y_dat, ↓Y_dic, ↓Y_ret, ↓Y_expr, ↓Y_if, ↓Y_par, ↓Y_par3, ↓AuK_dat, ↓Y_aug, ↓Y_for, ↓Y_while, ↓Y_setIx, slotAt_eq, slotO_own, slotO_dic, g_N, g_two, g_three, g_T, g_L, g_nil, g_cons, Option.bind_some, Option.map_some, List.getElem?_cons_zero, List.getElem?_cons_succ, List.set_cons_zero, List.set_cons_succ, ↓X_W, ↓DrK_d, ↓WkK_d, ↓RwK_ok, ↓X_fzM, ↓X_prn, ↓X_prc, ↓X_disp, ↓X_vD, ↓X_vO, ↓X_vM, ↓Y_parK, asB_b, asI_i, eqD_ii, neD_ii, ltD_ii, leD_ii, gtD_ii, geD_ii, addD_ii, subD_ii, lenD_l, lenD_t, List.length_map, List.length_range, ↓lt_l0, ↓lt_ls, ↓le_l0, ↓le_ls, ↓ln_p, ↓eq_l0, ↓eq_ls, ↓sm_l, if_true, if_false, decide_true, decide_false, Bool.not_true, Bool.not_false, rng2_1 (show n < 2 ^ 62 by omega), and_self]
    · have hk := List.mem_range.mp hk
      simp only [↓Ep_K, ↓Wp_K, ↓IteK_t, ↓IteK_f, ↓OpK_some, ↓AndK_t, ↓RsK_ok, ↓nxtK_nx, ↓nxtK_rt, ↓nxtK_bk, ↓nxtK_ct, ↓nxtK_ex, ↓VK_dat, ↓VK_own, ↓VK_dic, ↓X_V, ↓X_ret, ↓X_opt, ↓X_bind, ↓X_C, ↓X_nil, ↓X_no, ↓X_some, ↓X_yes, ↓X_cons, ↓X_bin, ↓X_un, ↓X_ix, ↓X_B, ↓X_BF, ↓X_binF, ↓X_tup, ↓X_lst, ↓X_lstF, ↓X_bOf, ↓X_and, ↓X_or, ↓X_not, ↓BoK_b, ↓X_eAnd, ↓X_eOr, ↓X_eNot, ↓X_eIf, ↓X_sl, ↓X_fz, ↓X_chain, ↓X_call, ↓X_meth, ↓X_rng1, ↓X_rng2, ↓X_rng3, ↓X_iA, ↓X_lr1, ↓X_lr2, ↓X_kget, ↓X_make, ↓X_get2, ↓X_get1, ↓X_eDic, ↓LsK_l, ↓X_idx, ↓X_VO, ↓X_BO, ↓X_BFO, ↓X_binO, ↓X_ixO, ↓MuK_own, ↓OwK_own, ↓X_mut, ↓Y_nx, ↓Y_pass, ↓Y_brk, ↓Y_cnt, ↓Y_retN, ↓Y_seq, ↓Y_asg, ↓Y_set, ↓Y_own, ↓Y_dat, ↓Y_dic, ↓Y_ret, ↓Y_expr, ↓Y_if, ↓Y_par, ↓Y_par3, ↓AuK_dat, ↓Y_aug, ↓Y_for, ↓Y_while, ↓Y_setIx, slotAt_eq, slotO_own, slotO_dic, g_N, g_two, g_three, g_T, g_L, g_nil, g_cons, Option.bind_some, Option.map_some, List.getElem?_cons_zero, List.getElem?_cons_succ, List.set_cons_zero, List.set_cons_succ, ↓X_W, ↓DrK_d, ↓WkK_d, ↓RwK_ok, ↓X_fzM, ↓X_prn, ↓X_prc, ↓X_disp, ↓X_vD, ↓X_vO, ↓X_vM, ↓Y_parK, asB_b, asI_i, eqD_ii, neD_ii, ltD_ii, leD_ii, gtD_ii, geD_ii, addD_ii, subD_ii, lenD_l, lenD_t, List.length_map, List.length_range, ↓lt_l0, ↓lt_ls, ↓le_l0, ↓le_ls, ↓ln_p, ↓eq_l0, ↓eq_ls, ↓sm_l, if_true, if_false, decide_true, decide_false, Bool.not_true, Bool.not_false, nI_eq, ob_power, ob_log, log_eq hn hg (show 1 + k < n by omega) (show 1 + k ≠ 0 by omega), power_eq hn hgl.1 (show flog n g (1 + k) < 2 ^ 900 by have := (log_facts n hn g hg (1 + k) (by omega) (by omega)).2.1; omega), (log_facts n hn g hg (1 + k) (by omega) (by omega)).1, and_self]
    simp only [↓Ep_K, ↓Wp_K, ↓IteK_t, ↓IteK_f, ↓OpK_some, ↓AndK_t, ↓RsK_ok, ↓nxtK_nx, ↓nxtK_rt, ↓nxtK_bk, ↓nxtK_ct, ↓nxtK_ex, ↓VK_dat, ↓VK_own, ↓VK_dic, ↓X_V, ↓X_ret, ↓X_opt, ↓X_bind, ↓X_C, ↓X_nil, ↓X_no, ↓X_some, ↓X_yes, ↓X_cons, ↓X_bin, ↓X_un, ↓X_ix, ↓X_B, ↓X_BF, ↓X_binF, ↓X_tup, ↓X_lst, ↓X_lstF, ↓X_bOf, ↓X_and, ↓X_or, ↓X_not, ↓BoK_b, ↓X_eAnd, ↓X_eOr, ↓X_eNot, ↓X_eIf, ↓X_sl, ↓X_fz, ↓X_chain, ↓X_call, ↓X_meth, ↓X_rng1, ↓X_rng2, ↓X_rng3, ↓X_iA, ↓X_lr1, ↓X_lr2, ↓X_kget, ↓X_make, ↓X_get2, ↓X_get1, ↓X_eDic, ↓LsK_l, ↓X_idx, ↓X_VO, ↓X_BO, ↓X_BFO, ↓X_binO, ↓X_ixO, ↓MuK_own, ↓OwK_own, ↓X_mut, ↓Y_nx, ↓Y_pass, ↓Y_brk, ↓Y_cnt, ↓Y_retN, ↓Y_seq, ↓Y_asg, ↓Y_set, ↓Y_own, ↓Y_dat, ↓Y_dic, ↓Y_ret, ↓Y_expr, ↓Y_if, ↓Y_par, ↓Y_par3, ↓AuK_dat, ↓Y_aug, ↓Y_for, ↓Y_while, ↓Y_setIx, slotAt_eq, slotO_own, slotO_dic, g_N, g_two, g_three, g_T, g_L, g_nil, g_cons, Option.bind_some, Option.map_some, List.getElem?_cons_zero, List.getElem?_cons_succ, List.set_cons_zero, List.set_cons_succ, ↓X_W, ↓DrK_d, ↓WkK_d, ↓RwK_ok, ↓X_fzM, ↓X_prn, ↓X_prc, ↓X_disp, ↓X_vD, ↓X_vO, ↓X_vM, ↓Y_parK, asB_b, asI_i, eqD_ii, neD_ii, ltD_ii, leD_ii, gtD_ii, geD_ii, addD_ii, subD_ii, lenD_l, lenD_t, List.length_map, List.length_range, ↓lt_l0, ↓lt_ls, ↓le_l0, ↓le_ls, ↓ln_p, ↓eq_l0, ↓eq_ls, ↓sm_l, if_true, if_false, decide_true, decide_false, Bool.not_true, Bool.not_false, lr2_1 (show n ≤ 1000000 by omega), nI_eq, neD_row2]
    refine E_mapG (fun k => nI (1 + k)) (List.range (n - 1)) (fun k => .int (flog n g (1 + k) : Nat)) ?_ (by simp) (by first | rfl | (simp [plainAt, plain_gv]; done) | (simp [plainAt, plain_gv, plainSlot]; done)) (by simp only [List.length_range]; omega) (fun k hk => ?_) ?_
    · simp only [↓Ep_K, ↓Wp_K, ↓IteK_t, ↓IteK_f, ↓OpK_some, ↓AndK_t, ↓RsK_ok, ↓nxtK_nx, ↓nxtK_rt, ↓nxtK_bk, ↓nxtK_ct, ↓nxtK_ex, ↓VK_dat, ↓VK_own, ↓VK_dic, ↓X_V, ↓X_ret, ↓X_opt, ↓X_bind, ↓X_C, ↓X_nil, ↓X_no, ↓X_some, ↓X_yes, ↓X_cons, ↓X_bin, ↓X_un, ↓X_ix, ↓X_B, ↓X_BF, ↓X_binF, ↓X_tup, ↓X_lst, ↓X_lstF, ↓X_bOf, ↓X_and, ↓X_or, ↓X_not, ↓BoK_b, ↓X_eAnd, ↓X_eOr, ↓X_eNot, ↓X_eIf, ↓X_sl, ↓X_fz, ↓X_chain, ↓X_call, ↓X_meth, ↓X_rng1, ↓X_rng2, ↓X_rng3, ↓X_iA, ↓X_lr1, ↓X_lr2, ↓X_kget, ↓X_make, ↓X_get2, ↓X_get1, ↓X_eDic, ↓LsK_l, ↓X_idx, ↓X_VO, ↓X_BO, ↓X_BFO, ↓X_binO, ↓X_ixO, ↓MuK_own, ↓OwK_own, ↓X_mut, ↓Y_nx, ↓Y_pass, ↓Y_brk, ↓Y_cnt, ↓Y_retN, ↓Y_seq, ↓Y_asg, ↓Y_set, ↓Y_own, ↓Y_dat, ↓Y_dic, ↓Y_ret, ↓Y_expr, ↓Y_if, ↓Y_par, ↓Y_par3, ↓AuK_dat, ↓Y_aug, ↓Y_for, ↓Y_while, ↓Y_setIx, slotAt_eq, slotO_own, slotO_dic, g_N, g_two, g_three, g_T, g_L, g_nil, g_cons, Option.bind_some, Option.map_some, List.getElem?_cons_zero, List.getElem?_cons_succ, List.set_cons_zero, List.set_cons_succ, ↓X_W, ↓DrK_d, ↓WkK_d, ↓RwK_ok, ↓X_fzM, ↓X_prn, ↓X_prc, ↓X_disp, ↓X_vD, ↓X_vO, ↓X_vM, ↓Y_parK, asB_b, asI_i, eqD_ii, neD_ii, ltD_ii, leD_ii, gtD_ii, geD_ii, addD_ii, subD_ii, lenD_l, lenD_t, List.length_map, List.length_range, ↓lt_l0, ↓lt_ls, ↓le_l0, ↓le_ls, ↓ln_p, ↓eq_l0, ↓eq_ls, ↓sm_l, if_true, if_false, decide_true, decide_false, Bool.not_true, Bool.not_false, rng2_1 (show n < 2 ^ 62 by omega), and_self]
    · have hk := List.mem_range.mp hk
      simp only [↓Ep_K, ↓Wp_K, ↓IteK_t, ↓IteK_f, ↓OpK_some, ↓AndK_t, ↓RsK_ok, ↓nxtK_nx, ↓nxtK_rt, ↓nxtK_bk, ↓nxtK_ct, ↓nxtK_ex, ↓VK_dat, ↓VK_own, ↓VK_dic, ↓X_V, ↓X_ret, ↓X_opt, ↓X_bind, ↓X_C, ↓X_nil, ↓X_no, ↓X_some, ↓X_yes, ↓X_cons, ↓X_bin, ↓X_un, ↓X_ix, ↓X_B, ↓X_BF, ↓X_binF, ↓X_tup, ↓X_lst, ↓X_lstF, ↓X_bOf, ↓X_and, ↓X_or, ↓X_not, ↓BoK_b, ↓X_eAnd, ↓X_eOr, ↓X_eNot, ↓X_eIf, ↓X_sl, ↓X_fz, ↓X_chain, ↓X_call, ↓X_meth, ↓X_rng1, ↓X_rng2, ↓X_rng3, ↓X_iA, ↓X_lr1, ↓X_lr2, ↓X_kget, ↓X_make, ↓X_get2, ↓X_get1, ↓X_eDic, ↓LsK_l, ↓X_idx, ↓X_VO, ↓X_BO, ↓X_BFO, ↓X_binO, ↓X_ixO, ↓MuK_own, ↓OwK_own, ↓X_mut, ↓Y_nx, ↓Y_pass, ↓Y_brk, ↓Y_cnt, ↓Y_retN, ↓Y_seq, ↓Y_asg, ↓Y_set, ↓Y_own, ↓Y_dat, ↓Y_dic, ↓Y_ret, ↓Y_expr, ↓Y_if, ↓Y_par, ↓Y_par3, ↓AuK_dat, ↓Y_aug, ↓Y_for, ↓Y_while, ↓Y_setIx, slotAt_eq, slotO_own, slotO_dic, g_N, g_two, g_three, g_T, g_L, g_nil, g_cons, Option.bind_some, Option.map_some, List.getElem?_cons_zero, List.getElem?_cons_succ, List.set_cons_zero, List.set_cons_succ, ↓X_W, ↓DrK_d, ↓WkK_d, ↓RwK_ok, ↓X_fzM, ↓X_prn, ↓X_prc, ↓X_disp, ↓X_vD, ↓X_vO, ↓X_vM, ↓Y_parK, asB_b, asI_i, eqD_ii, neD_ii, ltD_ii, leD_ii, gtD_ii, geD_ii, addD_ii, subD_ii, lenD_l, lenD_t, List.length_map, List.length_range, ↓lt_l0, ↓lt_ls, ↓le_l0, ↓le_ls, ↓ln_p, ↓eq_l0, ↓eq_ls, ↓sm_l, if_true, if_false, decide_true, decide_false, Bool.not_true, Bool.not_false, nI_eq, ob_log, log_eq hn hg (show 1 + k < n by omega) (show 1 + k ≠ 0 by omega), and_self]
    simp only [↓Ep_K, ↓Wp_K, ↓IteK_t, ↓IteK_f, ↓OpK_some, ↓AndK_t, ↓RsK_ok, ↓nxtK_nx, ↓nxtK_rt, ↓nxtK_bk, ↓nxtK_ct, ↓nxtK_ex, ↓VK_dat, ↓VK_own, ↓VK_dic, ↓X_V, ↓X_ret, ↓X_opt, ↓X_bind, ↓X_C, ↓X_nil, ↓X_no, ↓X_some, ↓X_yes, ↓X_cons, ↓X_bin, ↓X_un, ↓X_ix, ↓X_B, ↓X_BF, ↓X_binF, ↓X_tup, ↓X_lst, ↓X_lstF, ↓X_bOf, ↓X_and, ↓X_or, ↓X_not, ↓BoK_b, ↓X_eAnd, ↓X_eOr, ↓X_eNot, ↓X_eIf, ↓X_sl, ↓X_fz, ↓X_chain, ↓X_call, ↓X_meth, ↓X_rng1, ↓X_rng2, ↓X_rng3, ↓X_iA, ↓X_lr1, ↓X_lr2, ↓X_kget, ↓X_make, ↓X_get2, ↓X_get1, ↓X_eDic, ↓LsK_l, ↓X_idx, ↓X_VO, ↓X_BO, ↓X_BFO, ↓X_binO, ↓X_ixO, ↓MuK_own, ↓OwK_own, ↓X_mut, ↓Y_nx, ↓Y_pass, ↓Y_brk, ↓Y_cnt, ↓Y_retN, ↓Y_seq, ↓Y_asg, ↓Y_set, ↓Y_own, ↓Y_dat, ↓Y_dic, ↓Y_ret, ↓Y_expr, ↓Y_if, ↓Y_par, ↓Y_par3, ↓AuK_dat, ↓Y_aug, ↓Y_for, ↓Y_while, ↓Y_setIx, slotAt_eq, slotO_own, slotO_dic, g_N, g_two, g_three, g_T, g_L, g_nil, g_cons, Option.bind_some, Option.map_some, List.getElem?_cons_zero, List.getElem?_cons_succ, List.set_cons_zero, List.set_cons_succ, ↓X_W, ↓DrK_d, ↓WkK_d, ↓RwK_ok, ↓X_fzM, ↓X_prn, ↓X_prc, ↓X_disp, ↓X_vD, ↓X_vO, ↓X_vM, ↓Y_parK, asB_b, asI_i, eqD_ii, neD_ii, ltD_ii, leD_ii, gtD_ii, geD_ii, addD_ii, subD_ii, lenD_l, lenD_t, List.length_map, List.length_range, ↓lt_l0, ↓lt_ls, ↓le_l0, ↓le_ls, ↓ln_p, ↓eq_l0, ↓eq_ls, ↓sm_l, if_true, if_false, decide_true, decide_false, Bool.not_true, Bool.not_false, sort_logs hn hg, hc1, lr1_ok (show n - 1 ≤ 1000000 by omega), neD_lN, decide_true, Bool.not_true]
    refine RwK_takeW h6 (by omega) fun long k7 ns7 h7 hlong _ => ?_
    have hlong := hlong (by omega)
    simp only [↓Ep_K, ↓Wp_K, ↓IteK_t, ↓IteK_f, ↓OpK_some, ↓AndK_t, ↓RsK_ok, ↓nxtK_nx, ↓nxtK_rt, ↓nxtK_bk, ↓nxtK_ct, ↓nxtK_ex, ↓VK_dat, ↓VK_own, ↓VK_dic, ↓X_V, ↓X_ret, ↓X_opt, ↓X_bind, ↓X_C, ↓X_nil, ↓X_no, ↓X_some, ↓X_yes, ↓X_cons, ↓X_bin, ↓X_un, ↓X_ix, ↓X_B, ↓X_BF, ↓X_binF, ↓X_tup, ↓X_lst, ↓X_lstF, ↓X_bOf, ↓X_and, ↓X_or, ↓X_not, ↓BoK_b, ↓X_eAnd, ↓X_eOr, ↓X_eNot, ↓X_eIf, ↓X_sl, ↓X_fz, ↓X_chain, ↓X_call, ↓X_meth, ↓X_rng1, ↓X_rng2, ↓X_rng3, ↓X_iA, ↓X_lr1, ↓X_lr2, ↓X_kget, ↓X_make, ↓X_get2, ↓X_get1, ↓X_eDic, ↓LsK_l, ↓X_idx, ↓X_VO, ↓X_BO, ↓X_BFO, ↓X_binO, ↓X_ixO, ↓MuK_own, ↓OwK_own, ↓X_mut, ↓Y_nx, ↓Y_pass, ↓Y_brk, ↓Y_cnt, ↓Y_retN, ↓Y_seq, ↓Y_asg, ↓Y_set, ↓Y_own, ↓Y_dat, ↓Y_dic, ↓Y_ret, ↓Y_expr, ↓Y_if, ↓Y_par, ↓Y_par3, ↓AuK_dat, ↓Y_aug, ↓Y_for, ↓Y_while, ↓Y_setIx, slotAt_eq, slotO_own, slotO_dic, g_N, g_two, g_three, g_T, g_L, g_nil, g_cons, Option.bind_some, Option.map_some, List.getElem?_cons_zero, List.getElem?_cons_succ, List.set_cons_zero, List.set_cons_succ, ↓X_W, ↓DrK_d, ↓WkK_d, ↓RwK_ok, ↓X_fzM, ↓X_prn, ↓X_prc, ↓X_disp, ↓X_vD, ↓X_vO, ↓X_vM, ↓Y_parK, asB_b, asI_i, eqD_ii, neD_ii, ltD_ii, leD_ii, gtD_ii, geD_ii, addD_ii, subD_ii, lenD_l, lenD_t, List.length_map, List.length_range, ↓lt_l0, ↓lt_ls, ↓le_l0, ↓le_ls, ↓ln_p, ↓eq_l0, ↓eq_ls, ↓sm_l, if_true, if_false, decide_true, decide_false, Bool.not_true, Bool.not_false]
    refine E_drawN (v := 18) (w := 1) long n rfl h7 (by decide) ?_ (by simp) rfl (by omega) (fun i hi k ns hk => ?_) fun one k8 ns8 h8 hl1 hb1 => ?_
    · simp only [↓Ep_K, ↓Wp_K, ↓IteK_t, ↓IteK_f, ↓OpK_some, ↓AndK_t, ↓RsK_ok, ↓nxtK_nx, ↓nxtK_rt, ↓nxtK_bk, ↓nxtK_ct, ↓nxtK_ex, ↓VK_dat, ↓VK_own, ↓VK_dic, ↓X_V, ↓X_ret, ↓X_opt, ↓X_bind, ↓X_C, ↓X_nil, ↓X_no, ↓X_some, ↓X_yes, ↓X_cons, ↓X_bin, ↓X_un, ↓X_ix, ↓X_B, ↓X_BF, ↓X_binF, ↓X_tup, ↓X_lst, ↓X_lstF, ↓X_bOf, ↓X_and, ↓X_or, ↓X_not, ↓BoK_b, ↓X_eAnd, ↓X_eOr, ↓X_eNot, ↓X_eIf, ↓X_sl, ↓X_fz, ↓X_chain, ↓X_call, ↓X_meth, ↓X_rng1, ↓X_rng2, ↓X_rng3, ↓X_iA, ↓X_lr1, ↓X_lr2, ↓X_kget, ↓X_make, ↓X_get2, ↓X_get1, ↓X_eDic, ↓LsK_l, ↓X_idx, ↓X_VO, ↓X_BO, ↓X_BFO, ↓X_binO, ↓X_ixO, ↓MuK_own, ↓OwK_own, ↓X_mut, ↓Y_nx, ↓Y_pass, ↓Y_brk, ↓Y_cnt, ↓Y_retN, ↓Y_seq, ↓Y_asg, ↓Y_set, ↓Y_own, ↓Y_dat, ↓Y_dic, ↓Y_ret, ↓Y_expr, ↓Y_if, ↓Y_par, ↓Y_par3, ↓AuK_dat, ↓Y_aug, ↓Y_for, ↓Y_while, ↓Y_setIx, slotAt_eq, slotO_own, slotO_dic, g_N, g_two, g_three, g_T, g_L, g_nil, g_cons, Option.bind_some, Option.map_some, List.getElem?_cons_zero, List.getElem?_cons_succ, List.set_cons_zero, List.set_cons_succ, ↓X_W, ↓DrK_d, ↓WkK_d, ↓RwK_ok, ↓X_fzM, ↓X_prn, ↓X_prc, ↓X_disp, ↓X_vD, ↓X_vO, ↓X_vM, ↓Y_parK, asB_b, asI_i, eqD_ii, neD_ii, ltD_ii, leD_ii, gtD_ii, geD_ii, addD_ii, subD_ii, lenD_l, lenD_t, List.length_map, List.length_range, ↓lt_l0, ↓lt_ls, ↓le_l0, ↓le_ls, ↓ln_p, ↓eq_l0, ↓eq_ls, ↓sm_l, if_true, if_false, decide_true, decide_false, Bool.not_true, Bool.not_false, rng1_ok (n := long) (by omega), list_range, and_self]
    · simp only [↓Ep_K, ↓Wp_K, ↓IteK_t, ↓IteK_f, ↓OpK_some, ↓AndK_t, ↓RsK_ok, ↓nxtK_nx, ↓nxtK_rt, ↓nxtK_bk, ↓nxtK_ct, ↓nxtK_ex, ↓VK_dat, ↓VK_own, ↓VK_dic, ↓X_V, ↓X_ret, ↓X_opt, ↓X_bind, ↓X_C, ↓X_nil, ↓X_no, ↓X_some, ↓X_yes, ↓X_cons, ↓X_bin, ↓X_un, ↓X_ix, ↓X_B, ↓X_BF, ↓X_binF, ↓X_tup, ↓X_lst, ↓X_lstF, ↓X_bOf, ↓X_and, ↓X_or, ↓X_not, ↓BoK_b, ↓X_eAnd, ↓X_eOr, ↓X_eNot, ↓X_eIf, ↓X_sl, ↓X_fz, ↓X_chain, ↓X_call, ↓X_meth, ↓X_rng1, ↓X_rng2, ↓X_rng3, ↓X_iA, ↓X_lr1, ↓X_lr2, ↓X_kget, ↓X_make, ↓X_get2, ↓X_get1, ↓X_eDic, ↓LsK_l, ↓X_idx, ↓X_VO, ↓X_BO, ↓X_BFO, ↓X_binO, ↓X_ixO, ↓MuK_own, ↓OwK_own, ↓X_mut, ↓Y_nx, ↓Y_pass, ↓Y_brk, ↓Y_cnt, ↓Y_retN, ↓Y_seq, ↓Y_asg, ↓Y_set, ↓Y_own, ↓Y_dat, ↓Y_dic, ↓Y_ret, ↓Y_expr, ↓Y_if, ↓Y_par, ↓Y_par3, ↓AuK_dat, ↓Y_aug, ↓Y_for, ↓Y_while, ↓Y_setIx, slotAt_eq, slotO_own, slotO_dic, g_N, g_two, g_three, g_T, g_L, g_nil, g_cons, Option.bind_some, Option.map_some, List.getElem?_cons_zero, List.getElem?_cons_succ, List.set_cons_zero, List.set_cons_succ, ↓X_W, ↓DrK_d, ↓WkK_d, ↓RwK_ok, ↓X_fzM, ↓X_prn, ↓X_prc, ↓X_disp, ↓X_vD, ↓X_vO, ↓X_vM, ↓Y_parK, asB_b, asI_i, eqD_ii, neD_ii, ltD_ii, leD_ii, gtD_ii, geD_ii, addD_ii, subD_ii, lenD_l, lenD_t, List.length_map, List.length_range, ↓lt_l0, ↓lt_ls, ↓le_l0, ↓le_ls, ↓ln_p, ↓eq_l0, ↓eq_ls, ↓sm_l, if_true, if_false, decide_true, decide_false, Bool.not_true, Bool.not_false]
      refine RwK_take (n := n) hk (by omega) fun r k' ns' hk' hr _ => ?_
      exact ⟨⟨r, rfl, hr (by omega)⟩, k', ns', hk', rfl⟩
    simp only [↓Ep_K, ↓Wp_K, ↓IteK_t, ↓IteK_f, ↓OpK_some, ↓AndK_t, ↓RsK_ok, ↓nxtK_nx, ↓nxtK_rt, ↓nxtK_bk, ↓nxtK_ct, ↓nxtK_ex, ↓VK_dat, ↓VK_own, ↓VK_dic, ↓X_V, ↓X_ret, ↓X_opt, ↓X_bind, ↓X_C, ↓X_nil, ↓X_no, ↓X_some, ↓X_yes, ↓X_cons, ↓X_bin, ↓X_un, ↓X_ix, ↓X_B, ↓X_BF, ↓X_binF, ↓X_tup, ↓X_lst, ↓X_lstF, ↓X_bOf, ↓X_and, ↓X_or, ↓X_not, ↓BoK_b, ↓X_eAnd, ↓X_eOr, ↓X_eNot, ↓X_eIf, ↓X_sl, ↓X_fz, ↓X_chain, ↓X_call, ↓X_meth, ↓X_rng1, ↓X_rng2, ↓X_rng3, ↓X_iA, ↓X_lr1, ↓X_lr2, ↓X_kget, ↓X_make, ↓X_get2, ↓X_get1, ↓X_eDic, ↓LsK_l, ↓X_idx, ↓X_VO, ↓X_BO, ↓X_BFO, ↓X_binO, ↓X_ixO, ↓MuK_own, ↓OwK_own, ↓X_mut, ↓Y_nx, ↓Y_pass, ↓Y_brk, ↓Y_cnt, ↓Y_retN, ↓Y_seq, ↓Y_asg, ↓Y_set, ↓Y_own, ↓Y_dat, ↓Y_dic, ↓Y_ret, ↓Y_expr, ↓Y_if, ↓Y_par, ↓Y_par3, ↓AuK_dat, ↓Y_aug, ↓Y_for, ↓Y_while, ↓Y_setIx, slotAt_eq, slotO_own, slotO_dic, g_N, g_two, g_three, g_T, g_L, g_nil, g_cons, Option.bind_some, Option.map_some, List.getElem?_cons_zero, List.getElem?_cons_succ, List.set_cons_zero, List.set_cons_succ, ↓X_W, ↓DrK_d, ↓WkK_d, ↓RwK_ok, ↓X_fzM, ↓X_prn, ↓X_prc, ↓X_disp, ↓X_vD, ↓X_vO, ↓X_vM, ↓Y_parK, asB_b, asI_i, eqD_ii, neD_ii, ltD_ii, leD_ii, gtD_ii, geD_ii, addD_ii, subD_ii, lenD_l, lenD_t, List.length_map, List.length_range, ↓lt_l0, ↓lt_ls, ↓le_l0, ↓le_ls, ↓ln_p, ↓eq_l0, ↓eq_ls, ↓sm_l, if_true, if_false, decide_true, decide_false, Bool.not_true, Bool.not_false, tupleD_l]
    refine E_drawN (v := 18) (w := 1) long n rfl h8 (by decide) ?_ (by simp) rfl (by omega) (fun i hi k ns hk => ?_) fun other k9 ns9 h9 hl2 hb2 => ?_
    · simp only [↓Ep_K, ↓Wp_K, ↓IteK_t, ↓IteK_f, ↓OpK_some, ↓AndK_t, ↓RsK_ok, ↓nxtK_nx, ↓nxtK_rt, ↓nxtK_bk, ↓nxtK_ct, ↓nxtK_ex, ↓VK_dat, ↓VK_own, ↓VK_dic, ↓X_V, ↓X_ret, ↓X_opt, ↓X_bind, ↓X_C, ↓X_nil, ↓X_no, ↓X_some, ↓X_yes, ↓X_cons, ↓X_bin, ↓X_un, ↓X_ix, ↓X_B, ↓X_BF, ↓X_binF, ↓X_tup, ↓X_lst, ↓X_lstF, ↓X_bOf, ↓X_and, ↓X_or, ↓X_not, ↓BoK_b, ↓X_eAnd, ↓X_eOr, ↓X_eNot, ↓X_eIf, ↓X_sl, ↓X_fz, ↓X_chain, ↓X_call, ↓X_meth, ↓X_rng1, ↓X_rng2, ↓X_rng3, ↓X_iA, ↓X_lr1, ↓X_lr2, ↓X_kget, ↓X_make, ↓X_get2, ↓X_get1, ↓X_eDic, ↓LsK_l, ↓X_idx, ↓X_VO, ↓X_BO, ↓X_BFO, ↓X_binO, ↓X_ixO, ↓MuK_own, ↓OwK_own, ↓X_mut, ↓Y_nx, ↓Y_pass, ↓Y_brk, ↓Y_cnt, ↓Y_retN, ↓Y_seq, ↓Y_asg, ↓Y_set, ↓Y_own, ↓Y_dat, ↓Y_dic, ↓Y_ret, ↓Y_expr, ↓Y_if, ↓Y_par, ↓Y_par3, ↓AuK_dat, ↓Y_aug, ↓Y_for, ↓Y_while, ↓Y_setIx, slotAt_eq, slotO_own, slotO_dic, g_N, g_two, g_three, g_T, g_L, g_nil, g_cons, Option.bind_some, Option.map_some, List.getElem?_cons_zero, List.getElem?_cons_succ, List.set_cons_zero, List.set_cons_succ, ↓X_W, ↓DrK_d, ↓WkK_d, ↓RwK_ok, ↓X_fzM, ↓X_prn, ↓X_prc, ↓X_disp, ↓X_vD, ↓X_vO, ↓X_vM, ↓Y_parK, asB_b, asI_i, eqD_ii, neD_ii, ltD_ii, leD_ii, gtD_ii, geD_ii, addD_ii, subD_ii, lenD_l, lenD_t, List.length_map, List.length_range, ↓lt_l0, ↓lt_ls, ↓le_l0, ↓le_ls, ↓ln_p, ↓eq_l0, ↓eq_ls, ↓sm_l, if_true, if_false, decide_true, decide_false, Bool.not_true, Bool.not_false, rng1_ok (n := long) (by omega), list_range, and_self]
    · have q1 := (show Row (.tuple (one.map nI)) one from .inr rfl).ix (k := i) (by omega)
      simp only [↓Ep_K, ↓Wp_K, ↓IteK_t, ↓IteK_f, ↓OpK_some, ↓AndK_t, ↓RsK_ok, ↓nxtK_nx, ↓nxtK_rt, ↓nxtK_bk, ↓nxtK_ct, ↓nxtK_ex, ↓VK_dat, ↓VK_own, ↓VK_dic, ↓X_V, ↓X_ret, ↓X_opt, ↓X_bind, ↓X_C, ↓X_nil, ↓X_no, ↓X_some, ↓X_yes, ↓X_cons, ↓X_bin, ↓X_un, ↓X_ix, ↓X_B, ↓X_BF, ↓X_binF, ↓X_tup, ↓X_lst, ↓X_lstF, ↓X_bOf, ↓X_and, ↓X_or, ↓X_not, ↓BoK_b, ↓X_eAnd, ↓X_eOr, ↓X_eNot, ↓X_eIf, ↓X_sl, ↓X_fz, ↓X_chain, ↓X_call, ↓X_meth, ↓X_rng1, ↓X_rng2, ↓X_rng3, ↓X_iA, ↓X_lr1, ↓X_lr2, ↓X_kget, ↓X_make, ↓X_get2, ↓X_get1, ↓X_eDic, ↓LsK_l, ↓X_idx, ↓X_VO, ↓X_BO, ↓X_BFO, ↓X_binO, ↓X_ixO, ↓MuK_own, ↓OwK_own, ↓X_mut, ↓Y_nx, ↓Y_pass, ↓Y_brk, ↓Y_cnt, ↓Y_retN, ↓Y_seq, ↓Y_asg, ↓Y_set, ↓Y_own, ↓Y_dat, ↓Y_dic, ↓Y_ret, ↓Y_expr, ↓Y_if, ↓Y_par, ↓Y_par3, ↓AuK_dat, ↓Y_aug, ↓Y_for, ↓Y_while, ↓Y_setIx, slotAt_eq, slotO_own, slotO_dic, g_N, g_two, g_three, g_T, g_L, g_nil, g_cons, Option.bind_some, Option.map_some, List.getElem?_cons_zero, List.getElem?_cons_succ, List.set_cons_zero, List.set_cons_succ, ↓X_W, ↓DrK_d, ↓WkK_d, ↓RwK_ok, ↓X_fzM, ↓X_prn, ↓X_prc, ↓X_disp, ↓X_vD, ↓X_vO, ↓X_vM, ↓Y_parK, asB_b, asI_i, eqD_ii, neD_ii, ltD_ii, leD_ii, gtD_ii, geD_ii, addD_ii, subD_ii, lenD_l, lenD_t, List.length_map, List.length_range, ↓lt_l0, ↓lt_ls, ↓le_l0, ↓le_ls, ↓ln_p, ↓eq_l0, ↓eq_ls, ↓sm_l, if_true, if_false, decide_true, decide_false, Bool.not_true, Bool.not_false, q1]
      refine RwK_take (n := n) hk (by omega) fun r k' ns' hk' hr _ => ?_
      have hr := hr (by omega)
      simp only [↓Ep_K, ↓Wp_K, ↓IteK_t, ↓IteK_f, ↓OpK_some, ↓AndK_t, ↓RsK_ok, ↓nxtK_nx, ↓nxtK_rt, ↓nxtK_bk, ↓nxtK_ct, ↓nxtK_ex, ↓VK_dat, ↓VK_own, ↓VK_dic, ↓X_V, ↓X_ret, ↓X_opt, ↓X_bind, ↓X_C, ↓X_nil, ↓X_no, ↓X_some, ↓X_yes, ↓X_cons, ↓X_bin, ↓X_un, ↓X_ix, ↓X_B, ↓X_BF, ↓X_binF, ↓X_tup, ↓X_lst, ↓X_lstF, ↓X_bOf, ↓X_and, ↓X_or, ↓X_not, ↓BoK_b, ↓X_eAnd, ↓X_eOr, ↓X_eNot, ↓X_eIf, ↓X_sl, ↓X_fz, ↓X_chain, ↓X_call, ↓X_meth, ↓X_rng1, ↓X_rng2, ↓X_rng3, ↓X_iA, ↓X_lr1, ↓X_lr2, ↓X_kget, ↓X_make, ↓X_get2, ↓X_get1, ↓X_eDic, ↓LsK_l, ↓X_idx, ↓X_VO, ↓X_BO, ↓X_BFO, ↓X_binO, ↓X_ixO, ↓MuK_own, ↓OwK_own, ↓X_mut, ↓Y_nx, ↓Y_pass, ↓Y_brk, ↓Y_cnt, ↓Y_retN, ↓Y_seq, ↓Y_asg, ↓Y_set, ↓Y_own, ↓Y_dat, ↓Y_dic, ↓Y_ret, ↓Y_expr, ↓Y_if, ↓Y_par, ↓Y_par3, ↓AuK_dat, ↓Y_aug, ↓Y_for, ↓Y_while, ↓Y_setIx, slotAt_eq, slotO_own, slotO_dic, g_N, g_two, g_three, g_T, g_L, g_nil, g_cons, Option.bind_some, Option.map_some, List.getElem?_cons_zero, List.getElem?_cons_succ, List.set_cons_zero, List.set_cons_succ, ↓X_W, ↓DrK_d, ↓WkK_d, ↓RwK_ok, ↓X_fzM, ↓X_prn, ↓X_prc, ↓X_disp, ↓X_vD, ↓X_vO, ↓X_vM, ↓Y_parK, asB_b, asI_i, eqD_ii, neD_ii, ltD_ii, leD_ii, gtD_ii, geD_ii, addD_ii, subD_ii, lenD_l, lenD_t, List.length_map, List.length_range, ↓lt_l0, ↓lt_ls, ↓le_l0, ↓le_ls, ↓ln_p, ↓eq_l0, ↓eq_ls, ↓sm_l, if_true, if_false, decide_true, decide_false, Bool.not_true, Bool.not_false]
      refine pick_ok nI (xs := [one.getD i 0, r]) (.inl rfl) hk' (by simp) (by simp) fun y hy k'' ns'' hk'' => ?_
      refine ⟨⟨y, rfl, ?_⟩, k'', ns'', hk'', rfl⟩
      rcases List.mem_cons.mp hy with rfl | hy
      · exact getD_lt hb1 (by omega)
      · rcases List.mem_cons.mp hy with rfl | hy
        · exact hr
        · cases hy
    simp only [↓Ep_K, ↓Wp_K, ↓IteK_t, ↓IteK_f, ↓OpK_some, ↓AndK_t, ↓RsK_ok, ↓nxtK_nx, ↓nxtK_rt, ↓nxtK_bk, ↓nxtK_ct, ↓nxtK_ex, ↓VK_dat, ↓VK_own, ↓VK_dic, ↓X_V, ↓X_ret, ↓X_opt, ↓X_bind, ↓X_C, ↓X_nil, ↓X_no, ↓X_some, ↓X_yes, ↓X_cons, ↓X_bin, ↓X_un, ↓X_ix, ↓X_B, ↓X_BF, ↓X_binF, ↓X_tup, ↓X_lst, ↓X_lstF, ↓X_bOf, ↓X_and, ↓X_or, ↓X_not, ↓BoK_b, ↓X_eAnd, ↓X_eOr, ↓X_eNot, ↓X_eIf, ↓X_sl, ↓X_fz, ↓X_chain, ↓X_call, ↓X_meth, ↓X_rng1, ↓X_rng2, ↓X_rng3, ↓X_iA, ↓X_lr1, ↓X_lr2, ↓X_kget, ↓X_make, ↓X_get2, ↓X_get1, ↓X_eDic, ↓LsK_l, ↓X_idx, ↓X_VO, ↓X_BO, ↓X_BFO, ↓X_binO, ↓X_ixO, ↓MuK_own, ↓OwK_own, ↓X_mut, ↓Y_nx, ↓Y_pass, ↓Y_brk, ↓Y_cnt, ↓Y_retN, ↓Y_seq, ↓Y_asg, ↓Y_set, ↓Y_own, ↓Y_dat, ↓Y_dic, ↓Y_ret, ↓Y_expr, ↓Y_if, ↓Y_par, ↓Y_par3, ↓AuK_dat, ↓Y_aug, ↓Y_for, ↓Y_while, ↓Y_setIx, slotAt_eq, slotO_own, slotO_dic, g_N, g_two, g_three, g_T, g_L, g_nil, g_cons, Option.bind_some, Option.map_some, List.getElem?_cons_zero, List.getElem?_cons_succ, List.set_cons_zero, List.set_cons_succ, ↓X_W, ↓DrK_d, ↓WkK_d, ↓RwK_ok, ↓X_fzM, ↓X_prn, ↓X_prc, ↓X_disp, ↓X_vD, ↓X_vO, ↓X_vM, ↓Y_parK, asB_b, asI_i, eqD_ii, neD_ii, ltD_ii, leD_ii, gtD_ii, geD_ii, addD_ii, subD_ii, lenD_l, lenD_t, List.length_map, List.length_range, ↓lt_l0, ↓lt_ls, ↓le_l0, ↓le_ls, ↓ln_p, ↓eq_l0, ↓eq_ls, ↓sm_l, if_true, if_false, decide_true, decide_false, Bool.not_true, Bool.not_false, tupleD_l, walk_t]
    refine W_forE nI (st := fun (s : Nat) (c : Option D) => [Slot.un, Slot.drw ad k9 ns9, Slot.dat (PyData.int ↑n), Slot.dat (lawF n), Slot.dat (fieldD n), Slot.dat (PyData.int ↑x), Slot.dat (PyData.int ↑y), Slot.dat (PyData.int ↑z), Slot.dat (PyData.int ↑num), Slot.dat (PyData.list (List.map (fun k => PyData.int ↑(ford n (1 + k))) (List.range (n - 1)))), Slot.dat (PyData.int ↑g), Slot.dat (PyData.int ↑long), Slot.dat (PyData.tuple (List.map nI one)),
      Slot.dat (PyData.tuple (List.map nI other)), Slot.dat (PyData.int s), gv c, Slot.un, Slot.un, Slot.un, Slot.un]) (step := fadd n) (I := fun _ s => s < n) 0 none (by omega) (fun i e he s c hs => ?_) fun c hc => ?_
    · have he := hb1 e (List.mem_of_getElem? he)
      refine ⟨(add_facts n hn s hs e he).2.1, _, rfl, ?_⟩
      simp only [↓Ep_K, ↓Wp_K, ↓IteK_t, ↓IteK_f, ↓OpK_some, ↓AndK_t, ↓RsK_ok, ↓nxtK_nx, ↓nxtK_rt, ↓nxtK_bk, ↓nxtK_ct, ↓nxtK_ex, ↓VK_dat, ↓VK_own, ↓VK_dic, ↓X_V, ↓X_ret, ↓X_opt, ↓X_bind, ↓X_C, ↓X_nil, ↓X_no, ↓X_some, ↓X_yes, ↓X_cons, ↓X_bin, ↓X_un, ↓X_ix, ↓X_B, ↓X_BF, ↓X_binF, ↓X_tup, ↓X_lst, ↓X_lstF, ↓X_bOf, ↓X_and, ↓X_or, ↓X_not, ↓BoK_b, ↓X_eAnd, ↓X_eOr, ↓X_eNot, ↓X_eIf, ↓X_sl, ↓X_fz, ↓X_chain, ↓X_call, ↓X_meth, ↓X_rng1, ↓X_rng2, ↓X_rng3, ↓X_iA, ↓X_lr1, ↓X_lr2, ↓X_kget, ↓X_make, ↓X_get2, ↓X_get1, ↓X_eDic, ↓LsK_l, ↓X_idx, ↓X_VO, ↓X_BO, ↓X_BFO, ↓X_binO, ↓X_ixO, ↓MuK_own, ↓OwK_own, ↓X_mut, ↓Y_nx, ↓Y_pass, ↓Y_brk, ↓Y_cnt, ↓Y_retN, ↓Y_seq, ↓Y_asg, ↓Y_set, ↓Y_own, ↓Y_dat, ↓Y_dic, ↓Y_ret, ↓Y_expr, ↓Y_if, ↓Y_par, ↓Y_par3, ↓AuK_dat, ↓Y_aug, ↓Y_for, ↓Y_while, ↓Y_setIx, slotAt_eq, slotO_own, slotO_dic, g_N, g_two, g_three, g_T, g_L, g_nil, g_cons, Option.bind_some, Option.map_some, List.getElem?_cons_zero, List.getElem?_cons_succ, List.set_cons_zero, List.set_cons_succ, ↓X_W, ↓DrK_d, ↓WkK_d, ↓RwK_ok, ↓X_fzM, ↓X_prn, ↓X_prc, ↓X_disp, ↓X_vD, ↓X_vO, ↓X_vM, ↓Y_parK, asB_b, asI_i, eqD_ii, neD_ii, ltD_ii, leD_ii, gtD_ii, geD_ii, addD_ii, subD_ii, lenD_l, lenD_t, List.length_map, List.length_range, ↓lt_l0, ↓lt_ls, ↓le_l0, ↓le_ls, ↓ln_p, ↓eq_l0, ↓eq_ls, ↓sm_l, if_true, if_false, decide_true, decide_false, Bool.not_true, Bool.not_false, nI_eq, lawF_0, ix_tab hs, ix_row he]
      exact ⟨some _, .inl rfl⟩
    have ht : f_Field_total [fieldD n, .list (one.map nI)] = .ok (.int ((one.foldl (fadd n) 0 : Nat) : Int)) := total_eq hn (.inl rfl) hb1
    have hd1 := dot_eq (n := n) hn (show Row (.tuple (one.map nI)) one from .inr rfl) (show Row (.tuple (other.map nI)) other from .inr rfl) hb1 hb2 (by omega) (by omega)
    have hd2 := law_dot_eq (n := n) hn (show Row (.tuple (one.map nI)) one from .inr rfl) (show Row (.tuple (other.map nI)) other from .inr rfl) hb1 hb2 (by omega) (by omega)
    have hw := weight_eq (show Row (.tuple (one.map nI)) one from .inr rfl) (by omega)
    have hds := distance_eq (show Row (.tuple (one.map nI)) one from .inr rfl) (show Row (.tuple (other.map nI)) other from .inr rfl) (by omega) (by omega)
    have hsp := support_eq (show Row (.tuple (one.map nI)) one from .inr rfl) (by omega)
    simp only [↓Ep_K, ↓Wp_K, ↓IteK_t, ↓IteK_f, ↓OpK_some, ↓AndK_t, ↓RsK_ok, ↓nxtK_nx, ↓nxtK_rt, ↓nxtK_bk, ↓nxtK_ct, ↓nxtK_ex, ↓VK_dat, ↓VK_own, ↓VK_dic, ↓X_V, ↓X_ret, ↓X_opt, ↓X_bind, ↓X_C, ↓X_nil, ↓X_no, ↓X_some, ↓X_yes, ↓X_cons, ↓X_bin, ↓X_un, ↓X_ix, ↓X_B, ↓X_BF, ↓X_binF, ↓X_tup, ↓X_lst, ↓X_lstF, ↓X_bOf, ↓X_and, ↓X_or, ↓X_not, ↓BoK_b, ↓X_eAnd, ↓X_eOr, ↓X_eNot, ↓X_eIf, ↓X_sl, ↓X_fz, ↓X_chain, ↓X_call, ↓X_meth, ↓X_rng1, ↓X_rng2, ↓X_rng3, ↓X_iA, ↓X_lr1, ↓X_lr2, ↓X_kget, ↓X_make, ↓X_get2, ↓X_get1, ↓X_eDic, ↓LsK_l, ↓X_idx, ↓X_VO, ↓X_BO, ↓X_BFO, ↓X_binO, ↓X_ixO, ↓MuK_own, ↓OwK_own, ↓X_mut, ↓Y_nx, ↓Y_pass, ↓Y_brk, ↓Y_cnt, ↓Y_retN, ↓Y_seq, ↓Y_asg, ↓Y_set, ↓Y_own, ↓Y_dat, ↓Y_dic, ↓Y_ret, ↓Y_expr, ↓Y_if, ↓Y_par, ↓Y_par3, ↓AuK_dat, ↓Y_aug, ↓Y_for, ↓Y_while, ↓Y_setIx, slotAt_eq, slotO_own, slotO_dic, g_N, g_two, g_three, g_T, g_L, g_nil, g_cons, Option.bind_some, Option.map_some, List.getElem?_cons_zero, List.getElem?_cons_succ, List.set_cons_zero, List.set_cons_succ, ↓X_W, ↓DrK_d, ↓WkK_d, ↓RwK_ok, ↓X_fzM, ↓X_prn, ↓X_prc, ↓X_disp, ↓X_vD, ↓X_vO, ↓X_vM, ↓Y_parK, asB_b, asI_i, eqD_ii, neD_ii, ltD_ii, leD_ii, gtD_ii, geD_ii, addD_ii, subD_ii, lenD_l, lenD_t, List.length_map, List.length_range, ↓lt_l0, ↓lt_ls, ↓le_l0, ↓le_ls, ↓ln_p, ↓eq_l0, ↓eq_ls, ↓sm_l, if_true, if_false, decide_true, decide_false, Bool.not_true, Bool.not_false, ob_total, listD_t, ht, neD_i0, ob_dot, hd1, hd2, hw, walk_t]
    refine E_selG nI one (fun k => k != 0) nI ?_ (by simp) (by first | rfl | (simp [plainAt, plain_gv]; done) | (simp [plainAt, plain_gv, plainSlot]; done)) (by omega) (fun k hk => ?_) (fun k hk _ => ?_) ?_
    · simp only [↓Ep_K, ↓Wp_K, ↓IteK_t, ↓IteK_f, ↓OpK_some, ↓AndK_t, ↓RsK_ok, ↓nxtK_nx, ↓nxtK_rt, ↓nxtK_bk, ↓nxtK_ct, ↓nxtK_ex, ↓VK_dat, ↓VK_own, ↓VK_dic, ↓X_V, ↓X_ret, ↓X_opt, ↓X_bind, ↓X_C, ↓X_nil, ↓X_no, ↓X_some, ↓X_yes, ↓X_cons, ↓X_bin, ↓X_un, ↓X_ix, ↓X_B, ↓X_BF, ↓X_binF, ↓X_tup, ↓X_lst, ↓X_lstF, ↓X_bOf, ↓X_and, ↓X_or, ↓X_not, ↓BoK_b, ↓X_eAnd, ↓X_eOr, ↓X_eNot, ↓X_eIf, ↓X_sl, ↓X_fz, ↓X_chain, ↓X_call, ↓X_meth, ↓X_rng1, ↓X_rng2, ↓X_rng3, ↓X_iA, ↓X_lr1, ↓X_lr2, ↓X_kget, ↓X_make, ↓X_get2, ↓X_get1, ↓X_eDic, ↓LsK_l, ↓X_idx, ↓X_VO, ↓X_BO, ↓X_BFO, ↓X_binO, ↓X_ixO, ↓MuK_own, ↓OwK_own, ↓X_mut, ↓Y_nx, ↓Y_pass, ↓Y_brk, ↓Y_cnt, ↓Y_retN, ↓Y_seq, ↓Y_asg, ↓Y_set, ↓Y_own, ↓Y_dat, ↓Y_dic, ↓Y_ret, ↓Y_expr, ↓Y_if, ↓Y_par, ↓Y_par3, ↓AuK_dat, ↓Y_aug, ↓Y_for, ↓Y_while, ↓Y_setIx, slotAt_eq, slotO_own, slotO_dic, g_N, g_two, g_three, g_T, g_L, g_nil, g_cons, Option.bind_some, Option.map_some, List.getElem?_cons_zero, List.getElem?_cons_succ, List.set_cons_zero, List.set_cons_succ, ↓X_W, ↓DrK_d, ↓WkK_d, ↓RwK_ok, ↓X_fzM, ↓X_prn, ↓X_prc, ↓X_disp, ↓X_vD, ↓X_vO, ↓X_vM, ↓Y_parK, asB_b, asI_i, eqD_ii, neD_ii, ltD_ii, leD_ii, gtD_ii, geD_ii, addD_ii, subD_ii, lenD_l, lenD_t, List.length_map, List.length_range, ↓lt_l0, ↓lt_ls, ↓le_l0, ↓le_ls, ↓ln_p, ↓eq_l0, ↓eq_ls, ↓sm_l, if_true, if_false, decide_true, decide_false, Bool.not_true, Bool.not_false, walk_t, and_self]
    · simp only [↓Ep_K, ↓Wp_K, ↓IteK_t, ↓IteK_f, ↓OpK_some, ↓AndK_t, ↓RsK_ok, ↓nxtK_nx, ↓nxtK_rt, ↓nxtK_bk, ↓nxtK_ct, ↓nxtK_ex, ↓VK_dat, ↓VK_own, ↓VK_dic, ↓X_V, ↓X_ret, ↓X_opt, ↓X_bind, ↓X_C, ↓X_nil, ↓X_no, ↓X_some, ↓X_yes, ↓X_cons, ↓X_bin, ↓X_un, ↓X_ix, ↓X_B, ↓X_BF, ↓X_binF, ↓X_tup, ↓X_lst, ↓X_lstF, ↓X_bOf, ↓X_and, ↓X_or, ↓X_not, ↓BoK_b, ↓X_eAnd, ↓X_eOr, ↓X_eNot, ↓X_eIf, ↓X_sl, ↓X_fz, ↓X_chain, ↓X_call, ↓X_meth, ↓X_rng1, ↓X_rng2, ↓X_rng3, ↓X_iA, ↓X_lr1, ↓X_lr2, ↓X_kget, ↓X_make, ↓X_get2, ↓X_get1, ↓X_eDic, ↓LsK_l, ↓X_idx, ↓X_VO, ↓X_BO, ↓X_BFO, ↓X_binO, ↓X_ixO, ↓MuK_own, ↓OwK_own, ↓X_mut, ↓Y_nx, ↓Y_pass, ↓Y_brk, ↓Y_cnt, ↓Y_retN, ↓Y_seq, ↓Y_asg, ↓Y_set, ↓Y_own, ↓Y_dat, ↓Y_dic, ↓Y_ret, ↓Y_expr, ↓Y_if, ↓Y_par, ↓Y_par3, ↓AuK_dat, ↓Y_aug, ↓Y_for, ↓Y_while, ↓Y_setIx, slotAt_eq, slotO_own, slotO_dic, g_N, g_two, g_three, g_T, g_L, g_nil, g_cons, Option.bind_some, Option.map_some, List.getElem?_cons_zero, List.getElem?_cons_succ, List.set_cons_zero, List.set_cons_succ, ↓X_W, ↓DrK_d, ↓WkK_d, ↓RwK_ok, ↓X_fzM, ↓X_prn, ↓X_prc, ↓X_disp, ↓X_vD, ↓X_vO, ↓X_vM, ↓Y_parK, asB_b, asI_i, eqD_ii, neD_ii, ltD_ii, leD_ii, gtD_ii, geD_ii, addD_ii, subD_ii, lenD_l, lenD_t, List.length_map, List.length_range, ↓lt_l0, ↓lt_ls, ↓le_l0, ↓le_ls, ↓ln_p, ↓eq_l0, ↓eq_ls, ↓sm_l, if_true, if_false, decide_true, decide_false, Bool.not_true, Bool.not_false, nI_eq, dec0, and_self]
    · simp only [↓Ep_K, ↓Wp_K, ↓IteK_t, ↓IteK_f, ↓OpK_some, ↓AndK_t, ↓RsK_ok, ↓nxtK_nx, ↓nxtK_rt, ↓nxtK_bk, ↓nxtK_ct, ↓nxtK_ex, ↓VK_dat, ↓VK_own, ↓VK_dic, ↓X_V, ↓X_ret, ↓X_opt, ↓X_bind, ↓X_C, ↓X_nil, ↓X_no, ↓X_some, ↓X_yes, ↓X_cons, ↓X_bin, ↓X_un, ↓X_ix, ↓X_B, ↓X_BF, ↓X_binF, ↓X_tup, ↓X_lst, ↓X_lstF, ↓X_bOf, ↓X_and, ↓X_or, ↓X_not, ↓BoK_b, ↓X_eAnd, ↓X_eOr, ↓X_eNot, ↓X_eIf, ↓X_sl, ↓X_fz, ↓X_chain, ↓X_call, ↓X_meth, ↓X_rng1, ↓X_rng2, ↓X_rng3, ↓X_iA, ↓X_lr1, ↓X_lr2, ↓X_kget, ↓X_make, ↓X_get2, ↓X_get1, ↓X_eDic, ↓LsK_l, ↓X_idx, ↓X_VO, ↓X_BO, ↓X_BFO, ↓X_binO, ↓X_ixO, ↓MuK_own, ↓OwK_own, ↓X_mut, ↓Y_nx, ↓Y_pass, ↓Y_brk, ↓Y_cnt, ↓Y_retN, ↓Y_seq, ↓Y_asg, ↓Y_set, ↓Y_own, ↓Y_dat, ↓Y_dic, ↓Y_ret, ↓Y_expr, ↓Y_if, ↓Y_par, ↓Y_par3, ↓AuK_dat, ↓Y_aug, ↓Y_for, ↓Y_while, ↓Y_setIx, slotAt_eq, slotO_own, slotO_dic, g_N, g_two, g_three, g_T, g_L, g_nil, g_cons, Option.bind_some, Option.map_some, List.getElem?_cons_zero, List.getElem?_cons_succ, List.set_cons_zero, List.set_cons_succ, ↓X_W, ↓DrK_d, ↓WkK_d, ↓RwK_ok, ↓X_fzM, ↓X_prn, ↓X_prc, ↓X_disp, ↓X_vD, ↓X_vO, ↓X_vM, ↓Y_parK, asB_b, asI_i, eqD_ii, neD_ii, ltD_ii, leD_ii, gtD_ii, geD_ii, addD_ii, subD_ii, lenD_l, lenD_t, List.length_map, List.length_range, ↓lt_l0, ↓lt_ls, ↓le_l0, ↓le_ls, ↓ln_p, ↓eq_l0, ↓eq_ls, ↓sm_l, if_true, if_false, decide_true, decide_false, Bool.not_true, Bool.not_false, and_self]
    simp only [↓Ep_K, ↓Wp_K, ↓IteK_t, ↓IteK_f, ↓OpK_some, ↓AndK_t, ↓RsK_ok, ↓nxtK_nx, ↓nxtK_rt, ↓nxtK_bk, ↓nxtK_ct, ↓nxtK_ex, ↓VK_dat, ↓VK_own, ↓VK_dic, ↓X_V, ↓X_ret, ↓X_opt, ↓X_bind, ↓X_C, ↓X_nil, ↓X_no, ↓X_some, ↓X_yes, ↓X_cons, ↓X_bin, ↓X_un, ↓X_ix, ↓X_B, ↓X_BF, ↓X_binF, ↓X_tup, ↓X_lst, ↓X_lstF, ↓X_bOf, ↓X_and, ↓X_or, ↓X_not, ↓BoK_b, ↓X_eAnd, ↓X_eOr, ↓X_eNot, ↓X_eIf, ↓X_sl, ↓X_fz, ↓X_chain, ↓X_call, ↓X_meth, ↓X_rng1, ↓X_rng2, ↓X_rng3, ↓X_iA, ↓X_lr1, ↓X_lr2, ↓X_kget, ↓X_make, ↓X_get2, ↓X_get1, ↓X_eDic, ↓LsK_l, ↓X_idx, ↓X_VO, ↓X_BO, ↓X_BFO, ↓X_binO, ↓X_ixO, ↓MuK_own, ↓OwK_own, ↓X_mut, ↓Y_nx, ↓Y_pass, ↓Y_brk, ↓Y_cnt, ↓Y_retN, ↓Y_seq, ↓Y_asg, ↓Y_set, ↓Y_own, ↓Y_dat, ↓Y_dic, ↓Y_ret, ↓Y_expr, ↓Y_if, ↓Y_par, ↓Y_par3, ↓AuK_dat, ↓Y_aug, ↓Y_for, ↓Y_while, ↓Y_setIx, slotAt_eq, slotO_own, slotO_dic, g_N, g_two, g_three, g_T, g_L, g_nil, g_cons, Option.bind_some, Option.map_some, List.getElem?_cons_zero, List.getElem?_cons_succ, List.set_cons_zero, List.set_cons_succ, ↓X_W, ↓DrK_d, ↓WkK_d, ↓RwK_ok, ↓X_fzM, ↓X_prn, ↓X_prc, ↓X_disp, ↓X_vD, ↓X_vO, ↓X_vM, ↓Y_parK, asB_b, asI_i, eqD_ii, neD_ii, ltD_ii, leD_ii, gtD_ii, geD_ii, addD_ii, subD_ii, lenD_l, lenD_t, List.length_map, List.length_range, ↓lt_l0, ↓lt_ls, ↓le_l0, ↓le_ls, ↓ln_p, ↓eq_l0, ↓eq_ls, ↓sm_l, if_true, if_false, decide_true, decide_false, Bool.not_true, Bool.not_false, neD_i0, hds]
    refine E_selG nI (List.range long) (fun k => one.getD k 0 != other.getD k 0) nI ?_ (by simp) (by first | rfl | (simp [plainAt, plain_gv]; done) | (simp [plainAt, plain_gv, plainSlot]; done)) (by simp; omega) (fun k hk => ?_) (fun k hk _ => ?_) ?_
    · simp only [↓Ep_K, ↓Wp_K, ↓IteK_t, ↓IteK_f, ↓OpK_some, ↓AndK_t, ↓RsK_ok, ↓nxtK_nx, ↓nxtK_rt, ↓nxtK_bk, ↓nxtK_ct, ↓nxtK_ex, ↓VK_dat, ↓VK_own, ↓VK_dic, ↓X_V, ↓X_ret, ↓X_opt, ↓X_bind, ↓X_C, ↓X_nil, ↓X_no, ↓X_some, ↓X_yes, ↓X_cons, ↓X_bin, ↓X_un, ↓X_ix, ↓X_B, ↓X_BF, ↓X_binF, ↓X_tup, ↓X_lst, ↓X_lstF, ↓X_bOf, ↓X_and, ↓X_or, ↓X_not, ↓BoK_b, ↓X_eAnd, ↓X_eOr, ↓X_eNot, ↓X_eIf, ↓X_sl, ↓X_fz, ↓X_chain, ↓X_call, ↓X_meth, ↓X_rng1, ↓X_rng2, ↓X_rng3, ↓X_iA, ↓X_lr1, ↓X_lr2, ↓X_kget, ↓X_make, ↓X_get2, ↓X_get1, ↓X_eDic, ↓LsK_l, ↓X_idx, ↓X_VO, ↓X_BO, ↓X_BFO, ↓X_binO, ↓X_ixO, ↓MuK_own, ↓OwK_own, ↓X_mut, ↓Y_nx, ↓Y_pass, ↓Y_brk, ↓Y_cnt, ↓Y_retN, ↓Y_seq, ↓Y_asg, ↓Y_set, ↓Y_own, ↓Y_dat, ↓Y_dic, ↓Y_ret, ↓Y_expr, ↓Y_if, ↓Y_par, ↓Y_par3, ↓AuK_dat, ↓Y_aug, ↓Y_for, ↓Y_while, ↓Y_setIx, slotAt_eq, slotO_own, slotO_dic, g_N, g_two, g_three, g_T, g_L, g_nil, g_cons, Option.bind_some, Option.map_some, List.getElem?_cons_zero, List.getElem?_cons_succ, List.set_cons_zero, List.set_cons_succ, ↓X_W, ↓DrK_d, ↓WkK_d, ↓RwK_ok, ↓X_fzM, ↓X_prn, ↓X_prc, ↓X_disp, ↓X_vD, ↓X_vO, ↓X_vM, ↓Y_parK, asB_b, asI_i, eqD_ii, neD_ii, ltD_ii, leD_ii, gtD_ii, geD_ii, addD_ii, subD_ii, lenD_l, lenD_t, List.length_map, List.length_range, ↓lt_l0, ↓lt_ls, ↓le_l0, ↓le_ls, ↓ln_p, ↓eq_l0, ↓eq_ls, ↓sm_l, if_true, if_false, decide_true, decide_false, Bool.not_true, Bool.not_false, rng1_ok (n := long) (by omega), list_range, and_self]
    · have hk := List.mem_range.mp hk
      have q1 := (show Row (.tuple (one.map nI)) one from .inr rfl).ix (k := k) (by omega)
      have q2 := (show Row (.tuple (other.map nI)) other from .inr rfl).ix (k := k) (by omega)
      simp only [↓Ep_K, ↓Wp_K, ↓IteK_t, ↓IteK_f, ↓OpK_some, ↓AndK_t, ↓RsK_ok, ↓nxtK_nx, ↓nxtK_rt, ↓nxtK_bk, ↓nxtK_ct, ↓nxtK_ex, ↓VK_dat, ↓VK_own, ↓VK_dic, ↓X_V, ↓X_ret, ↓X_opt, ↓X_bind, ↓X_C, ↓X_nil, ↓X_no, ↓X_some, ↓X_yes, ↓X_cons, ↓X_bin, ↓X_un, ↓X_ix, ↓X_B, ↓X_BF, ↓X_binF, ↓X_tup, ↓X_lst, ↓X_lstF, ↓X_bOf, ↓X_and, ↓X_or, ↓X_not, ↓BoK_b, ↓X_eAnd, ↓X_eOr, ↓X_eNot, ↓X_eIf, ↓X_sl, ↓X_fz, ↓X_chain, ↓X_call, ↓X_meth, ↓X_rng1, ↓X_rng2, ↓X_rng3, ↓X_iA, ↓X_lr1, ↓X_lr2, ↓X_kget, ↓X_make, ↓X_get2, ↓X_get1, ↓X_eDic, ↓LsK_l, ↓X_idx, ↓X_VO, ↓X_BO, ↓X_BFO, ↓X_binO, ↓X_ixO, ↓MuK_own, ↓OwK_own, ↓X_mut, ↓Y_nx, ↓Y_pass, ↓Y_brk, ↓Y_cnt, ↓Y_retN, ↓Y_seq, ↓Y_asg, ↓Y_set, ↓Y_own, ↓Y_dat, ↓Y_dic, ↓Y_ret, ↓Y_expr, ↓Y_if, ↓Y_par, ↓Y_par3, ↓AuK_dat, ↓Y_aug, ↓Y_for, ↓Y_while, ↓Y_setIx, slotAt_eq, slotO_own, slotO_dic, g_N, g_two, g_three, g_T, g_L, g_nil, g_cons, Option.bind_some, Option.map_some, List.getElem?_cons_zero, List.getElem?_cons_succ, List.set_cons_zero, List.set_cons_succ, ↓X_W, ↓DrK_d, ↓WkK_d, ↓RwK_ok, ↓X_fzM, ↓X_prn, ↓X_prc, ↓X_disp, ↓X_vD, ↓X_vO, ↓X_vM, ↓Y_parK, asB_b, asI_i, eqD_ii, neD_ii, ltD_ii, leD_ii, gtD_ii, geD_ii, addD_ii, subD_ii, lenD_l, lenD_t, List.length_map, List.length_range, ↓lt_l0, ↓lt_ls, ↓le_l0, ↓le_ls, ↓ln_p, ↓eq_l0, ↓eq_ls, ↓sm_l, if_true, if_false, decide_true, decide_false, Bool.not_true, Bool.not_false, nI_eq, q1, q2, decN, and_self]
    · simp only [↓Ep_K, ↓Wp_K, ↓IteK_t, ↓IteK_f, ↓OpK_some, ↓AndK_t, ↓RsK_ok, ↓nxtK_nx, ↓nxtK_rt, ↓nxtK_bk, ↓nxtK_ct, ↓nxtK_ex, ↓VK_dat, ↓VK_own, ↓VK_dic, ↓X_V, ↓X_ret, ↓X_opt, ↓X_bind, ↓X_C, ↓X_nil, ↓X_no, ↓X_some, ↓X_yes, ↓X_cons, ↓X_bin, ↓X_un, ↓X_ix, ↓X_B, ↓X_BF, ↓X_binF, ↓X_tup, ↓X_lst, ↓X_lstF, ↓X_bOf, ↓X_and, ↓X_or, ↓X_not, ↓BoK_b, ↓X_eAnd, ↓X_eOr, ↓X_eNot, ↓X_eIf, ↓X_sl, ↓X_fz, ↓X_chain, ↓X_call, ↓X_meth, ↓X_rng1, ↓X_rng2, ↓X_rng3, ↓X_iA, ↓X_lr1, ↓X_lr2, ↓X_kget, ↓X_make, ↓X_get2, ↓X_get1, ↓X_eDic, ↓LsK_l, ↓X_idx, ↓X_VO, ↓X_BO, ↓X_BFO, ↓X_binO, ↓X_ixO, ↓MuK_own, ↓OwK_own, ↓X_mut, ↓Y_nx, ↓Y_pass, ↓Y_brk, ↓Y_cnt, ↓Y_retN, ↓Y_seq, ↓Y_asg, ↓Y_set, ↓Y_own, ↓Y_dat, ↓Y_dic, ↓Y_ret, ↓Y_expr, ↓Y_if, ↓Y_par, ↓Y_par3, ↓AuK_dat, ↓Y_aug, ↓Y_for, ↓Y_while, ↓Y_setIx, slotAt_eq, slotO_own, slotO_dic, g_N, g_two, g_three, g_T, g_L, g_nil, g_cons, Option.bind_some, Option.map_some, List.getElem?_cons_zero, List.getElem?_cons_succ, List.set_cons_zero, List.set_cons_succ, ↓X_W, ↓DrK_d, ↓WkK_d, ↓RwK_ok, ↓X_fzM, ↓X_prn, ↓X_prc, ↓X_disp, ↓X_vD, ↓X_vO, ↓X_vM, ↓Y_parK, asB_b, asI_i, eqD_ii, neD_ii, ltD_ii, leD_ii, gtD_ii, geD_ii, addD_ii, subD_ii, lenD_l, lenD_t, List.length_map, List.length_range, ↓lt_l0, ↓lt_ls, ↓le_l0, ↓le_ls, ↓ln_p, ↓eq_l0, ↓eq_ls, ↓sm_l, if_true, if_false, decide_true, decide_false, Bool.not_true, Bool.not_false, and_self]
    have hfd : fdist one other = ((List.range long).filter fun k => one.getD k 0 != other.getD k 0).length := by
      unfold fdist
      rw [hl1]
    simp only [↓Ep_K, ↓Wp_K, ↓IteK_t, ↓IteK_f, ↓OpK_some, ↓AndK_t, ↓RsK_ok, ↓nxtK_nx, ↓nxtK_rt, ↓nxtK_bk, ↓nxtK_ct, ↓nxtK_ex, ↓VK_dat, ↓VK_own, ↓VK_dic, ↓X_V, ↓X_ret, ↓X_opt, ↓X_bind, ↓X_C, ↓X_nil, ↓X_no, ↓X_some, ↓X_yes, ↓X_cons, ↓X_bin, ↓X_un, ↓X_ix, ↓X_B, ↓X_BF, ↓X_binF, ↓X_tup, ↓X_lst, ↓X_lstF, ↓X_bOf, ↓X_and, ↓X_or, ↓X_not, ↓BoK_b, ↓X_eAnd, ↓X_eOr, ↓X_eNot, ↓X_eIf, ↓X_sl, ↓X_fz, ↓X_chain, ↓X_call, ↓X_meth, ↓X_rng1, ↓X_rng2, ↓X_rng3, ↓X_iA, ↓X_lr1, ↓X_lr2, ↓X_kget, ↓X_make, ↓X_get2, ↓X_get1, ↓X_eDic, ↓LsK_l, ↓X_idx, ↓X_VO, ↓X_BO, ↓X_BFO, ↓X_binO, ↓X_ixO, ↓MuK_own, ↓OwK_own, ↓X_mut, ↓Y_nx, ↓Y_pass, ↓Y_brk, ↓Y_cnt, ↓Y_retN, ↓Y_seq, ↓Y_asg, ↓Y_set, ↓Y_own, ↓Y_dat, ↓Y_dic, ↓Y_ret, ↓Y_expr, ↓Y_if, ↓Y_par, ↓Y_par3, ↓AuK_dat, ↓Y_aug, ↓Y_for, ↓Y_while, ↓Y_setIx, slotAt_eq, slotO_own, slotO_dic, g_N, g_two, g_three, g_T, g_L, g_nil, g_cons, Option.bind_some, Option.map_some, List.getElem?_cons_zero, List.getElem?_cons_succ, List.set_cons_zero, List.set_cons_succ, ↓X_W, ↓DrK_d, ↓WkK_d, ↓RwK_ok, ↓X_fzM, ↓X_prn, ↓X_prc, ↓X_disp, ↓X_vD, ↓X_vO, ↓X_vM, ↓Y_parK, asB_b, asI_i, eqD_ii, neD_ii, ltD_ii, leD_ii, gtD_ii, geD_ii, addD_ii, subD_ii, lenD_l, lenD_t, List.length_map, List.length_range, ↓lt_l0, ↓lt_ls, ↓le_l0, ↓le_ls, ↓ln_p, ↓eq_l0, ↓eq_ls, ↓sm_l, if_true, if_false, decide_true, decide_false, Bool.not_true, Bool.not_false, ← hfd, neD_i0, hsp]
    refine E_selG nI (List.range long) (fun k => one.getD k 0 != 0) nI ?_ (by simp) (by first | rfl | (simp [plainAt, plain_gv]; done) | (simp [plainAt, plain_gv, plainSlot]; done)) (by simp; omega) (fun k hk => ?_) (fun k hk _ => ?_) ?_
    · simp only [↓Ep_K, ↓Wp_K, ↓IteK_t, ↓IteK_f, ↓OpK_some, ↓AndK_t, ↓RsK_ok, ↓nxtK_nx, ↓nxtK_rt, ↓nxtK_bk, ↓nxtK_ct, ↓nxtK_ex, ↓VK_dat, ↓VK_own, ↓VK_dic, ↓X_V, ↓X_ret, ↓X_opt, ↓X_bind, ↓X_C, ↓X_nil, ↓X_no, ↓X_some, ↓X_yes, ↓X_cons, ↓X_bin, ↓X_un, ↓X_ix, ↓X_B, ↓X_BF, ↓X_binF, ↓X_tup, ↓X_lst, ↓X_lstF, ↓X_bOf, ↓X_and, ↓X_or, ↓X_not, ↓BoK_b, ↓X_eAnd, ↓X_eOr, ↓X_eNot, ↓X_eIf, ↓X_sl, ↓X_fz, ↓X_chain, ↓X_call, ↓X_meth, ↓X_rng1, ↓X_rng2, ↓X_rng3, ↓X_iA, ↓X_lr1, ↓X_lr2, ↓X_kget, ↓X_make, ↓X_get2, ↓X_get1, ↓X_eDic, ↓LsK_l, ↓X_idx, ↓X_VO, ↓X_BO, ↓X_BFO, ↓X_binO, ↓X_ixO, ↓MuK_own, ↓OwK_own, ↓X_mut, ↓Y_nx, ↓Y_pass, ↓Y_brk, ↓Y_cnt, ↓Y_retN, ↓Y_seq, ↓Y_asg, ↓Y_set, ↓Y_own, ↓Y_dat, ↓Y_dic, ↓Y_ret, ↓Y_expr, ↓Y_if, ↓Y_par, ↓Y_par3, ↓AuK_dat, ↓Y_aug, ↓Y_for, ↓Y_while, ↓Y_setIx, slotAt_eq, slotO_own, slotO_dic, g_N, g_two, g_three, g_T, g_L, g_nil, g_cons, Option.bind_some, Option.map_some, List.getElem?_cons_zero, List.getElem?_cons_succ, List.set_cons_zero, List.set_cons_succ, ↓X_W, ↓DrK_d, ↓WkK_d, ↓RwK_ok, ↓X_fzM, ↓X_prn, ↓X_prc, ↓X_disp, ↓X_vD, ↓X_vO, ↓X_vM, ↓Y_parK, asB_b, asI_i, eqD_ii, neD_ii, ltD_ii, leD_ii, gtD_ii, geD_ii, addD_ii, subD_ii, lenD_l, lenD_t, List.length_map, List.length_range, ↓lt_l0, ↓lt_ls, ↓le_l0, ↓le_ls, ↓ln_p, ↓eq_l0, ↓eq_ls, ↓sm_l, if_true, if_false, decide_true, decide_false, Bool.not_true, Bool.not_false, rng1_ok (n := long) (by omega), list_range, and_self]
    · have hk := List.mem_range.mp hk
      have q1 := (show Row (.tuple (one.map nI)) one from .inr rfl).ix (k := k) (by omega)
      simp only [↓Ep_K, ↓Wp_K, ↓IteK_t, ↓IteK_f, ↓OpK_some, ↓AndK_t, ↓RsK_ok, ↓nxtK_nx, ↓nxtK_rt, ↓nxtK_bk, ↓nxtK_ct, ↓nxtK_ex, ↓VK_dat, ↓VK_own, ↓VK_dic, ↓X_V, ↓X_ret, ↓X_opt, ↓X_bind, ↓X_C, ↓X_nil, ↓X_no, ↓X_some, ↓X_yes, ↓X_cons, ↓X_bin, ↓X_un, ↓X_ix, ↓X_B, ↓X_BF, ↓X_binF, ↓X_tup, ↓X_lst, ↓X_lstF, ↓X_bOf, ↓X_and, ↓X_or, ↓X_not, ↓BoK_b, ↓X_eAnd, ↓X_eOr, ↓X_eNot, ↓X_eIf, ↓X_sl, ↓X_fz, ↓X_chain, ↓X_call, ↓X_meth, ↓X_rng1, ↓X_rng2, ↓X_rng3, ↓X_iA, ↓X_lr1, ↓X_lr2, ↓X_kget, ↓X_make, ↓X_get2, ↓X_get1, ↓X_eDic, ↓LsK_l, ↓X_idx, ↓X_VO, ↓X_BO, ↓X_BFO, ↓X_binO, ↓X_ixO, ↓MuK_own, ↓OwK_own, ↓X_mut, ↓Y_nx, ↓Y_pass, ↓Y_brk, ↓Y_cnt, ↓Y_retN, ↓Y_seq, ↓Y_asg, ↓Y_set, ↓Y_own, ↓Y_dat, ↓Y_dic, ↓Y_ret, ↓Y_expr, ↓Y_if, ↓Y_par, ↓Y_par3, ↓AuK_dat, ↓Y_aug, ↓Y_for, ↓Y_while, ↓Y_setIx, slotAt_eq, slotO_own, slotO_dic, g_N, g_two, g_three, g_T, g_L, g_nil, g_cons, Option.bind_some, Option.map_some, List.getElem?_cons_zero, List.getElem?_cons_succ, List.set_cons_zero, List.set_cons_succ, ↓X_W, ↓DrK_d, ↓WkK_d, ↓RwK_ok, ↓X_fzM, ↓X_prn, ↓X_prc, ↓X_disp, ↓X_vD, ↓X_vO, ↓X_vM, ↓Y_parK, asB_b, asI_i, eqD_ii, neD_ii, ltD_ii, leD_ii, gtD_ii, geD_ii, addD_ii, subD_ii, lenD_l, lenD_t, List.length_map, List.length_range, ↓lt_l0, ↓lt_ls, ↓le_l0, ↓le_ls, ↓ln_p, ↓eq_l0, ↓eq_ls, ↓sm_l, if_true, if_false, decide_true, decide_false, Bool.not_true, Bool.not_false, nI_eq, q1, dec0, and_self]
    · simp only [↓Ep_K, ↓Wp_K, ↓IteK_t, ↓IteK_f, ↓OpK_some, ↓AndK_t, ↓RsK_ok, ↓nxtK_nx, ↓nxtK_rt, ↓nxtK_bk, ↓nxtK_ct, ↓nxtK_ex, ↓VK_dat, ↓VK_own, ↓VK_dic, ↓X_V, ↓X_ret, ↓X_opt, ↓X_bind, ↓X_C, ↓X_nil, ↓X_no, ↓X_some, ↓X_yes, ↓X_cons, ↓X_bin, ↓X_un, ↓X_ix, ↓X_B, ↓X_BF, ↓X_binF, ↓X_tup, ↓X_lst, ↓X_lstF, ↓X_bOf, ↓X_and, ↓X_or, ↓X_not, ↓BoK_b, ↓X_eAnd, ↓X_eOr, ↓X_eNot, ↓X_eIf, ↓X_sl, ↓X_fz, ↓X_chain, ↓X_call, ↓X_meth, ↓X_rng1, ↓X_rng2, ↓X_rng3, ↓X_iA, ↓X_lr1, ↓X_lr2, ↓X_kget, ↓X_make, ↓X_get2, ↓X_get1, ↓X_eDic, ↓LsK_l, ↓X_idx, ↓X_VO, ↓X_BO, ↓X_BFO, ↓X_binO, ↓X_ixO, ↓MuK_own, ↓OwK_own, ↓X_mut, ↓Y_nx, ↓Y_pass, ↓Y_brk, ↓Y_cnt, ↓Y_retN, ↓Y_seq, ↓Y_asg, ↓Y_set, ↓Y_own, ↓Y_dat, ↓Y_dic, ↓Y_ret, ↓Y_expr, ↓Y_if, ↓Y_par, ↓Y_par3, ↓AuK_dat, ↓Y_aug, ↓Y_for, ↓Y_while, ↓Y_setIx, slotAt_eq, slotO_own, slotO_dic, g_N, g_two, g_three, g_T, g_L, g_nil, g_cons, Option.bind_some, Option.map_some, List.getElem?_cons_zero, List.getElem?_cons_succ, List.set_cons_zero, List.set_cons_succ, ↓X_W, ↓DrK_d, ↓WkK_d, ↓RwK_ok, ↓X_fzM, ↓X_prn, ↓X_prc, ↓X_disp, ↓X_vD, ↓X_vO, ↓X_vM, ↓Y_parK, asB_b, asI_i, eqD_ii, neD_ii, ltD_ii, leD_ii, gtD_ii, geD_ii, addD_ii, subD_ii, lenD_l, lenD_t, List.length_map, List.length_range, ↓lt_l0, ↓lt_ls, ↓le_l0, ↓le_ls, ↓ln_p, ↓eq_l0, ↓eq_ls, ↓sm_l, if_true, if_false, decide_true, decide_false, Bool.not_true, Bool.not_false, and_self]
    have hfs : ((List.range long).filter fun k => one.getD k 0 != 0) = fsup one := by
      unfold fsup
      rw [hl1]
    have hneg : negD (.int 1) = some (.int (-1)) := rfl
    have hneg2 : negD (.int 2) = some (.int (-2)) := rfl
    have hml : (one.map nI).length ≤ 1000 := by rw [List.length_map]; omega
    have hcl : ∀ l h, (cutD (one.map nI) l h).length ≤ 1000 := fun l h => Nat.le_trans cut_len hml
    simp only [↓Ep_K, ↓Wp_K, ↓IteK_t, ↓IteK_f, ↓OpK_some, ↓AndK_t, ↓RsK_ok, ↓nxtK_nx, ↓nxtK_rt, ↓nxtK_bk, ↓nxtK_ct, ↓nxtK_ex, ↓VK_dat, ↓VK_own, ↓VK_dic, ↓X_V, ↓X_ret, ↓X_opt, ↓X_bind, ↓X_C, ↓X_nil, ↓X_no, ↓X_some, ↓X_yes, ↓X_cons, ↓X_bin, ↓X_un, ↓X_ix, ↓X_B, ↓X_BF, ↓X_binF, ↓X_tup, ↓X_lst, ↓X_lstF, ↓X_bOf, ↓X_and, ↓X_or, ↓X_not, ↓BoK_b, ↓X_eAnd, ↓X_eOr, ↓X_eNot, ↓X_eIf, ↓X_sl, ↓X_fz, ↓X_chain, ↓X_call, ↓X_meth, ↓X_rng1, ↓X_rng2, ↓X_rng3, ↓X_iA, ↓X_lr1, ↓X_lr2, ↓X_kget, ↓X_make, ↓X_get2, ↓X_get1, ↓X_eDic, ↓LsK_l, ↓X_idx, ↓X_VO, ↓X_BO, ↓X_BFO, ↓X_binO, ↓X_ixO, ↓MuK_own, ↓OwK_own, ↓X_mut, ↓Y_nx, ↓Y_pass, ↓Y_brk, ↓Y_cnt, ↓Y_retN, ↓Y_seq, ↓Y_asg, ↓Y_set, ↓Y_own, ↓Y_dat, ↓Y_dic, ↓Y_ret, ↓Y_expr, ↓Y_if, ↓Y_par, ↓Y_par3, ↓AuK_dat, ↓Y_aug, ↓Y_for, ↓Y_while, ↓Y_setIx, slotAt_eq, slotO_own, slotO_dic, g_N, g_two, g_three, g_T, g_L, g_nil, g_cons, Option.bind_some, Option.map_some, List.getElem?_cons_zero, List.getElem?_cons_succ, List.set_cons_zero, List.set_cons_succ, ↓X_W, ↓DrK_d, ↓WkK_d, ↓RwK_ok, ↓X_fzM, ↓X_prn, ↓X_prc, ↓X_disp, ↓X_vD, ↓X_vO, ↓X_vM, ↓Y_parK, asB_b, asI_i, eqD_ii, neD_ii, ltD_ii, leD_ii, gtD_ii, geD_ii, addD_ii, subD_ii, lenD_l, lenD_t, List.length_map, List.length_range, ↓lt_l0, ↓lt_ls, ↓le_l0, ↓le_ls, ↓ln_p, ↓eq_l0, ↓eq_ls, ↓sm_l, if_true, if_false, decide_true, decide_false, Bool.not_true, Bool.not_false, tupleD_l, hfs, neD_tN, decide_true, Bool.not_true, listD_t, addTup (xs := one.map nI) (ys := [.int 0]) (by simp; omega), slD_t, hneg, fun y => addTup (xs := cutD (one.map nI) none (some (-1))) (ys := [y]) (by have := hcl none (some (-1)); simp; omega)]
    have hone : ∀ d ∈ one.map nI, notDict d = true := fun d hd => by
      obtain ⟨k, _, rfl⟩ := List.mem_map.mp hd
      rfl
    have hcut : ∀ l h, ∀ d ∈ cutD (one.map nI) l h, notDict d = true := fun l h d hd => hone d (cut_mem hd)
    have hsnoc : ∀ (ds : List D) (y : D), ds.length ≤ 1000 → (∀ d ∈ ds, notDict d = true) → notDict y = true → ValOk (.tuple (ds ++ [y])) := fun ds y h1 h2 h3 => .tup (by simp; omega) fun d hd => by
      rcases List.mem_append.mp hd with hd | hd
      · exact h2 d hd
      · rw [List.mem_singleton.mp hd]
        exact h3
    refine OpK.of walk_l ?_
    refine W_forD (st := fun (c' : Option D × Option D) => [Slot.un, Slot.drw ad k9 ns9, Slot.dat (PyData.int ↑n), Slot.dat (lawF n), Slot.dat (fieldD n), Slot.dat (PyData.int ↑x), Slot.dat (PyData.int ↑y), Slot.dat (PyData.int ↑z), Slot.dat (PyData.int ↑num), Slot.dat (PyData.list (List.map (fun k => PyData.int ↑(ford n (1 + k))) (List.range (n - 1)))), Slot.dat (PyData.int ↑g), Slot.dat (PyData.int ↑long), Slot.dat (PyData.tuple (List.map nI one)),
      Slot.dat (PyData.tuple (List.map nI other)), Slot.dat (PyData.int (one.foldl (fadd n) 0 : Nat)), gv c, gv c'.1, gv c'.2, Slot.un, Slot.un]) (none, none) (fun d hd c' => ?_) fun c' => ?_
    · have hv : ValOk d := by
        simp only [List.mem_cons, List.not_mem_nil, or_false] at hd
        rcases hd with rfl | rfl | rfl | rfl | rfl | rfl | rfl | rfl | rfl
        · exact .tup (by omega) hone
        · exact ⟨rfl, fun _ e => nomatch e⟩
        · exact hsnoc _ _ hml hone rfl
        · exact .tup (by have := hcl (some 1) none; omega) (hcut _ _)
        · exact ⟨rfl, fun _ e => nomatch e⟩
        · exact hsnoc _ _ (hcl _ _) (hcut _ _) rfl
        · exact hsnoc _ _ (hcl _ _) (hcut _ _) rfl
        · exact hsnoc _ _ (hcl _ _) (hcut _ _) rfl
        · exact hsnoc _ _ (hcl _ _) (hcut _ _) rfl
      refine ⟨_, rfl, ?_⟩
      have hword := is_word_eq (n := n) (l := long) hv.1 hv.2
      rw [Wp_K, Y_seq, Y_set]
      refine Ep_val (PyData.bool (wordB n long d)) ?_ ?_
      · cases d with
        | tuple ds =>
          obtain ⟨h1, h2⟩ := hv.2 ds rfl
          simp only [↓Ep_K, ↓Wp_K, ↓IteK_t, ↓IteK_f, ↓OpK_some, ↓AndK_t, ↓RsK_ok, ↓nxtK_nx, ↓nxtK_rt, ↓nxtK_bk, ↓nxtK_ct, ↓nxtK_ex, ↓VK_dat, ↓VK_own, ↓VK_dic, ↓X_V, ↓X_ret, ↓X_opt, ↓X_bind, ↓X_C, ↓X_nil, ↓X_no, ↓X_some, ↓X_yes, ↓X_cons, ↓X_bin, ↓X_un, ↓X_ix, ↓X_B, ↓X_BF, ↓X_binF, ↓X_tup, ↓X_lst, ↓X_lstF, ↓X_bOf, ↓X_and, ↓X_or, ↓X_not, ↓BoK_b, ↓X_eAnd, ↓X_eOr, ↓X_eNot, ↓X_eIf, ↓X_sl, ↓X_fz, ↓X_chain, ↓X_call, ↓X_meth, ↓X_rng1, ↓X_rng2, ↓X_rng3, ↓X_iA, ↓X_lr1, ↓X_lr2, ↓X_kget, ↓X_make, ↓X_get2, ↓X_get1, ↓X_eDic, ↓LsK_l, ↓X_idx, ↓X_VO, ↓X_BO, ↓X_BFO, ↓X_binO, ↓X_ixO, ↓MuK_own, ↓OwK_own, ↓X_mut, ↓Y_nx, ↓Y_pass, ↓Y_brk, ↓Y_cnt, ↓Y_retN, ↓Y_seq, ↓Y_asg, ↓Y_set, ↓Y_own, ↓Y_dat, ↓Y_dic, ↓Y_ret, ↓Y_expr, ↓Y_if, ↓Y_par, ↓Y_par3, ↓AuK_dat, ↓Y_aug, ↓Y_for, ↓Y_while, ↓Y_setIx, slotAt_eq, slotO_own, slotO_dic, g_N, g_two, g_three, g_T, g_L, g_nil, g_cons, Option.bind_some, Option.map_some, List.getElem?_cons_zero, List.getElem?_cons_succ, List.set_cons_zero, List.set_cons_succ, ↓X_W, ↓DrK_d, ↓WkK_d, ↓RwK_ok, ↓X_fzM, ↓X_prn, ↓X_prc, ↓X_disp, ↓X_vD, ↓X_vO, ↓X_vM, ↓Y_parK, asB_b, asI_i, eqD_ii, neD_ii, ltD_ii, leD_ii, gtD_ii, geD_ii, addD_ii, subD_ii, lenD_l, lenD_t, List.length_map, List.length_range, ↓lt_l0, ↓lt_ls, ↓le_l0, ↓le_ls, ↓ln_p, ↓eq_l0, ↓eq_ls, ↓sm_l, if_true, if_false, decide_true, decide_false, Bool.not_true, Bool.not_false, isi_tup_t]
          by_cases hl : ds.length = long
          · have e1 : decide ((ds.length : Int) = long) = true := by simp; omega
            simp only [↓Ep_K, ↓Wp_K, ↓IteK_t, ↓IteK_f, ↓OpK_some, ↓AndK_t, ↓RsK_ok, ↓nxtK_nx, ↓nxtK_rt, ↓nxtK_bk, ↓nxtK_ct, ↓nxtK_ex, ↓VK_dat, ↓VK_own, ↓VK_dic, ↓X_V, ↓X_ret, ↓X_opt, ↓X_bind, ↓X_C, ↓X_nil, ↓X_no, ↓X_some, ↓X_yes, ↓X_cons, ↓X_bin, ↓X_un, ↓X_ix, ↓X_B, ↓X_BF, ↓X_binF, ↓X_tup, ↓X_lst, ↓X_lstF, ↓X_bOf, ↓X_and, ↓X_or, ↓X_not, ↓BoK_b, ↓X_eAnd, ↓X_eOr, ↓X_eNot, ↓X_eIf, ↓X_sl, ↓X_fz, ↓X_chain, ↓X_call, ↓X_meth, ↓X_rng1, ↓X_rng2, ↓X_rng3, ↓X_iA, ↓X_lr1, ↓X_lr2, ↓X_kget, ↓X_make, ↓X_get2, ↓X_get1, ↓X_eDic, ↓LsK_l, ↓X_idx, ↓X_VO, ↓X_BO, ↓X_BFO, ↓X_binO, ↓X_ixO, ↓MuK_own, ↓OwK_own, ↓X_mut, ↓Y_nx, ↓Y_pass, ↓Y_brk, ↓Y_cnt, ↓Y_retN, ↓Y_seq, ↓Y_asg, ↓Y_set, ↓Y_own, ↓Y_dat, ↓Y_dic, ↓Y_ret, ↓Y_expr, ↓Y_if, ↓Y_par, ↓Y_par3, ↓AuK_dat, ↓Y_aug, ↓Y_for, ↓Y_while, ↓Y_setIx, slotAt_eq, slotO_own, slotO_dic, g_N, g_two, g_three, g_T, g_L, g_nil, g_cons, Option.bind_some, Option.map_some, List.getElem?_cons_zero, List.getElem?_cons_succ, List.set_cons_zero, List.set_cons_succ, ↓X_W, ↓DrK_d, ↓WkK_d, ↓RwK_ok, ↓X_fzM, ↓X_prn, ↓X_prc, ↓X_disp, ↓X_vD, ↓X_vO, ↓X_vM, ↓Y_parK, asB_b, asI_i, eqD_ii, neD_ii, ltD_ii, leD_ii, gtD_ii, geD_ii, addD_ii, subD_ii, lenD_l, lenD_t, List.length_map, List.length_range, ↓lt_l0, ↓lt_ls, ↓le_l0, ↓le_ls, ↓ln_p, ↓eq_l0, ↓eq_ls, ↓sm_l, if_true, if_false, decide_true, decide_false, Bool.not_true, Bool.not_false, e1]
            refine E_selG (fun d : D => d) ds (fun d => !wholeB 0 ((n : Int) - 1) d) (fun d : D => d) ?_ (by simp) (by first | rfl | (simp [plainAt, plain_gv]; done) | (simp [plainAt, plain_gv, plainSlot]; done)) h1 (fun v hv => ?_) (fun v hv _ => ?_) ?_
            · simp only [↓Ep_K, ↓Wp_K, ↓IteK_t, ↓IteK_f, ↓OpK_some, ↓AndK_t, ↓RsK_ok, ↓nxtK_nx, ↓nxtK_rt, ↓nxtK_bk, ↓nxtK_ct, ↓nxtK_ex, ↓VK_dat, ↓VK_own, ↓VK_dic, ↓X_V, ↓X_ret, ↓X_opt, ↓X_bind, ↓X_C, ↓X_nil, ↓X_no, ↓X_some, ↓X_yes, ↓X_cons, ↓X_bin, ↓X_un, ↓X_ix, ↓X_B, ↓X_BF, ↓X_binF, ↓X_tup, ↓X_lst, ↓X_lstF, ↓X_bOf, ↓X_and, ↓X_or, ↓X_not, ↓BoK_b, ↓X_eAnd, ↓X_eOr, ↓X_eNot, ↓X_eIf, ↓X_sl, ↓X_fz, ↓X_chain, ↓X_call, ↓X_meth, ↓X_rng1, ↓X_rng2, ↓X_rng3, ↓X_iA, ↓X_lr1, ↓X_lr2, ↓X_kget, ↓X_make, ↓X_get2, ↓X_get1, ↓X_eDic, ↓LsK_l, ↓X_idx, ↓X_VO, ↓X_BO, ↓X_BFO, ↓X_binO, ↓X_ixO, ↓MuK_own, ↓OwK_own, ↓X_mut, ↓Y_nx, ↓Y_pass, ↓Y_brk, ↓Y_cnt, ↓Y_retN, ↓Y_seq, ↓Y_asg, ↓Y_set, ↓Y_own, ↓Y_dat, ↓Y_dic, ↓Y_ret, ↓Y_expr, ↓Y_if, ↓Y_par, ↓Y_par3, ↓AuK_dat, ↓Y_aug, ↓Y_for, ↓Y_while, ↓Y_setIx, slotAt_eq, slotO_own, slotO_dic, g_N, g_two, g_three, g_T, g_L, g_nil, g_cons, Option.bind_some, Option.map_some, List.getElem?_cons_zero, List.getElem?_cons_succ, List.set_cons_zero, List.set_cons_succ, ↓X_W, ↓DrK_d, ↓WkK_d, ↓RwK_ok, ↓X_fzM, ↓X_prn, ↓X_prc, ↓X_disp, ↓X_vD, ↓X_vO, ↓X_vM, ↓Y_parK, asB_b, asI_i, eqD_ii, neD_ii, ltD_ii, leD_ii, gtD_ii, geD_ii, addD_ii, subD_ii, lenD_l, lenD_t, List.length_map, List.length_range, ↓lt_l0, ↓lt_ls, ↓le_l0, ↓le_ls, ↓ln_p, ↓eq_l0, ↓eq_ls, ↓sm_l, if_true, if_false, decide_true, decide_false, Bool.not_true, Bool.not_false, walk_t, List.map_id', and_self]
            · cases v with
              | int i =>
                simp only [↓Ep_K, ↓Wp_K, ↓IteK_t, ↓IteK_f, ↓OpK_some, ↓AndK_t, ↓RsK_ok, ↓nxtK_nx, ↓nxtK_rt, ↓nxtK_bk, ↓nxtK_ct, ↓nxtK_ex, ↓VK_dat, ↓VK_own, ↓VK_dic, ↓X_V, ↓X_ret, ↓X_opt, ↓X_bind, ↓X_C, ↓X_nil, ↓X_no, ↓X_some, ↓X_yes, ↓X_cons, ↓X_bin, ↓X_un, ↓X_ix, ↓X_B, ↓X_BF, ↓X_binF, ↓X_tup, ↓X_lst, ↓X_lstF, ↓X_bOf, ↓X_and, ↓X_or, ↓X_not, ↓BoK_b, ↓X_eAnd, ↓X_eOr, ↓X_eNot, ↓X_eIf, ↓X_sl, ↓X_fz, ↓X_chain, ↓X_call, ↓X_meth, ↓X_rng1, ↓X_rng2, ↓X_rng3, ↓X_iA, ↓X_lr1, ↓X_lr2, ↓X_kget, ↓X_make, ↓X_get2, ↓X_get1, ↓X_eDic, ↓LsK_l, ↓X_idx, ↓X_VO, ↓X_BO, ↓X_BFO, ↓X_binO, ↓X_ixO, ↓MuK_own, ↓OwK_own, ↓X_mut, ↓Y_nx, ↓Y_pass, ↓Y_brk, ↓Y_cnt, ↓Y_retN, ↓Y_seq, ↓Y_asg, ↓Y_set, ↓Y_own, ↓Y_dat, ↓Y_dic, ↓Y_ret, ↓Y_expr, ↓Y_if, ↓Y_par, ↓Y_par3, ↓AuK_dat, ↓Y_aug, ↓Y_for, ↓Y_while, ↓Y_setIx, slotAt_eq, slotO_own, slotO_dic, g_N, g_two, g_three, g_T, g_L, g_nil, g_cons, Option.bind_some, Option.map_some, List.getElem?_cons_zero, List.getElem?_cons_succ, List.set_cons_zero, List.set_cons_succ, ↓X_W, ↓DrK_d, ↓WkK_d, ↓RwK_ok, ↓X_fzM, ↓X_prn, ↓X_prc, ↓X_disp, ↓X_vD, ↓X_vO, ↓X_vM, ↓Y_parK, asB_b, asI_i, eqD_ii, neD_ii, ltD_ii, leD_ii, gtD_ii, geD_ii, addD_ii, subD_ii, lenD_l, lenD_t, List.length_map, List.length_range, ↓lt_l0, ↓lt_ls, ↓le_l0, ↓le_ls, ↓ln_p, ↓eq_l0, ↓eq_ls, ↓sm_l, if_true, if_false, decide_true, decide_false, Bool.not_true, Bool.not_false, isi_int_i, isi_bool_i, wholeB]
                by_cases q1 : i < 0
                · have q2 : decide ((0 : Int) ≤ i) = false := by simp; omega
                  simp only [q1, q2, decide_true, IteK_t, Bool.false_and, Bool.not_false, and_self]
                · have q2 : decide ((0 : Int) ≤ i) = true := by simp; omega
                  have q3 : decide ((n : Int) ≤ i) = !decide (i ≤ (n : Int) - 1) := by
                    rw [Bool.eq_iff_iff]
                    simp
                    omega
                  simp only [q1, q2, q3, decide_false, IteK_f, ↓Ep_K, ↓Wp_K, ↓IteK_t, ↓IteK_f, ↓OpK_some, ↓AndK_t, ↓RsK_ok, ↓nxtK_nx, ↓nxtK_rt, ↓nxtK_bk, ↓nxtK_ct, ↓nxtK_ex, ↓VK_dat, ↓VK_own, ↓VK_dic, ↓X_V, ↓X_ret, ↓X_opt, ↓X_bind, ↓X_C, ↓X_nil, ↓X_no, ↓X_some, ↓X_yes, ↓X_cons, ↓X_bin, ↓X_un, ↓X_ix, ↓X_B, ↓X_BF, ↓X_binF, ↓X_tup, ↓X_lst, ↓X_lstF, ↓X_bOf, ↓X_and, ↓X_or, ↓X_not, ↓BoK_b, ↓X_eAnd, ↓X_eOr, ↓X_eNot, ↓X_eIf, ↓X_sl, ↓X_fz, ↓X_chain, ↓X_call, ↓X_meth, ↓X_rng1, ↓X_rng2, ↓X_rng3, ↓X_iA, ↓X_lr1, ↓X_lr2, ↓X_kget, ↓X_make, ↓X_get2, ↓X_get1, ↓X_eDic, ↓LsK_l, ↓X_idx, ↓X_VO, ↓X_BO, ↓X_BFO, ↓X_binO, ↓X_ixO, ↓MuK_own, ↓OwK_own, ↓X_mut, ↓Y_nx, ↓Y_pass, ↓Y_brk, ↓Y_cnt, ↓Y_retN, ↓Y_seq, ↓Y_asg, ↓Y_set, ↓Y_own, ↓Y_dat, ↓Y_dic, ↓Y_ret, ↓Y_expr, ↓Y_if, ↓Y_par, ↓Y_par3, ↓AuK_dat, ↓Y_aug, ↓Y_for, ↓Y_while, ↓Y_setIx, slotAt_eq, slotO_own, slotO_dic, g_N, g_two, g_three, g_T, g_L, g_nil, g_cons, Option.bind_some, Option.map_some, List.getElem?_cons_zero, List.getElem?_cons_succ, List.set_cons_zero, List.set_cons_succ, ↓X_W, ↓DrK_d, ↓WkK_d, ↓RwK_ok, ↓X_fzM, ↓X_prn, ↓X_prc, ↓X_disp, ↓X_vD, ↓X_vO, ↓X_vM, ↓Y_parK, asB_b, asI_i, eqD_ii, neD_ii, ltD_ii, leD_ii, gtD_ii, geD_ii, addD_ii, subD_ii, lenD_l, lenD_t, List.length_map, List.length_range, ↓lt_l0, ↓lt_ls, ↓le_l0, ↓le_ls, ↓ln_p, ↓eq_l0, ↓eq_ls, ↓sm_l, if_true, if_false, decide_true, decide_false, Bool.not_true, Bool.not_false, Bool.true_and, and_self]
              | dict => exact absurd (h2 _ hv) (by simp [notDict])
              | bool => simp only [↓Ep_K, ↓Wp_K, ↓IteK_t, ↓IteK_f, ↓OpK_some, ↓AndK_t, ↓RsK_ok, ↓nxtK_nx, ↓nxtK_rt, ↓nxtK_bk, ↓nxtK_ct, ↓nxtK_ex, ↓VK_dat, ↓VK_own, ↓VK_dic, ↓X_V, ↓X_ret, ↓X_opt, ↓X_bind, ↓X_C, ↓X_nil, ↓X_no, ↓X_some, ↓X_yes, ↓X_cons, ↓X_bin, ↓X_un, ↓X_ix, ↓X_B, ↓X_BF, ↓X_binF, ↓X_tup, ↓X_lst, ↓X_lstF, ↓X_bOf, ↓X_and, ↓X_or, ↓X_not, ↓BoK_b, ↓X_eAnd, ↓X_eOr, ↓X_eNot, ↓X_eIf, ↓X_sl, ↓X_fz, ↓X_chain, ↓X_call, ↓X_meth, ↓X_rng1, ↓X_rng2, ↓X_rng3, ↓X_iA, ↓X_lr1, ↓X_lr2, ↓X_kget, ↓X_make, ↓X_get2, ↓X_get1, ↓X_eDic, ↓LsK_l, ↓X_idx, ↓X_VO, ↓X_BO, ↓X_BFO, ↓X_binO, ↓X_ixO, ↓MuK_own, ↓OwK_own, ↓X_mut, ↓Y_nx, ↓Y_pass, ↓Y_brk, ↓Y_cnt, ↓Y_retN, ↓Y_seq, ↓Y_asg, ↓Y_set, ↓Y_own, ↓Y_dat, ↓Y_dic, ↓Y_ret, ↓Y_expr, ↓Y_if, ↓Y_par, ↓Y_par3, ↓AuK_dat, ↓Y_aug, ↓Y_for, ↓Y_while, ↓Y_setIx, slotAt_eq, slotO_own, slotO_dic, g_N, g_two, g_three, g_T, g_L, g_nil, g_cons, Option.bind_some, Option.map_some, List.getElem?_cons_zero, List.getElem?_cons_succ, List.set_cons_zero, List.set_cons_succ, ↓X_W, ↓DrK_d, ↓WkK_d, ↓RwK_ok, ↓X_fzM, ↓X_prn, ↓X_prc, ↓X_disp, ↓X_vD, ↓X_vO, ↓X_vM, ↓Y_parK, asB_b, asI_i, eqD_ii, neD_ii, ltD_ii, leD_ii, gtD_ii, geD_ii, addD_ii, subD_ii, lenD_l, lenD_t, List.length_map, List.length_range, ↓lt_l0, ↓lt_ls, ↓le_l0, ↓le_ls, ↓ln_p, ↓eq_l0, ↓eq_ls, ↓sm_l, if_true, if_false, decide_true, decide_false, Bool.not_true, Bool.not_false, isi_int_b, isi_bool_b, wholeB, and_self]
              | none => simp only [↓Ep_K, ↓Wp_K, ↓IteK_t, ↓IteK_f, ↓OpK_some, ↓AndK_t, ↓RsK_ok, ↓nxtK_nx, ↓nxtK_rt, ↓nxtK_bk, ↓nxtK_ct, ↓nxtK_ex, ↓VK_dat, ↓VK_own, ↓VK_dic, ↓X_V, ↓X_ret, ↓X_opt, ↓X_bind, ↓X_C, ↓X_nil, ↓X_no, ↓X_some, ↓X_yes, ↓X_cons, ↓X_bin, ↓X_un, ↓X_ix, ↓X_B, ↓X_BF, ↓X_binF, ↓X_tup, ↓X_lst, ↓X_lstF, ↓X_bOf, ↓X_and, ↓X_or, ↓X_not, ↓BoK_b, ↓X_eAnd, ↓X_eOr, ↓X_eNot, ↓X_eIf, ↓X_sl, ↓X_fz, ↓X_chain, ↓X_call, ↓X_meth, ↓X_rng1, ↓X_rng2, ↓X_rng3, ↓X_iA, ↓X_lr1, ↓X_lr2, ↓X_kget, ↓X_make, ↓X_get2, ↓X_get1, ↓X_eDic, ↓LsK_l, ↓X_idx, ↓X_VO, ↓X_BO, ↓X_BFO, ↓X_binO, ↓X_ixO, ↓MuK_own, ↓OwK_own, ↓X_mut, ↓Y_nx, ↓Y_pass, ↓Y_brk, ↓Y_cnt, ↓Y_retN, ↓Y_seq, ↓Y_asg, ↓Y_set, ↓Y_own, ↓Y_dat, ↓Y_dic, ↓Y_ret, ↓Y_expr, ↓Y_if, ↓Y_par, ↓Y_par3, ↓AuK_dat, ↓Y_aug, ↓Y_for, ↓Y_while, ↓Y_setIx, slotAt_eq, slotO_own, slotO_dic, g_N, g_two, g_three, g_T, g_L, g_nil, g_cons, Option.bind_some, Option.map_some, List.getElem?_cons_zero, List.getElem?_cons_succ, List.set_cons_zero, List.set_cons_succ, ↓X_W, ↓DrK_d, ↓WkK_d, ↓RwK_ok, ↓X_fzM, ↓X_prn, ↓X_prc, ↓X_disp, ↓X_vD, ↓X_vO, ↓X_vM, ↓Y_parK, asB_b, asI_i, eqD_ii, neD_ii, ltD_ii, leD_ii, gtD_ii, geD_ii, addD_ii, subD_ii, lenD_l, lenD_t, List.length_map, List.length_range, ↓lt_l0, ↓lt_ls, ↓le_l0, ↓le_ls, ↓ln_p, ↓eq_l0, ↓eq_ls, ↓sm_l, if_true, if_false, decide_true, decide_false, Bool.not_true, Bool.not_false, isi_int_n, wholeB, and_self]
              | str => simp only [↓Ep_K, ↓Wp_K, ↓IteK_t, ↓IteK_f, ↓OpK_some, ↓AndK_t, ↓RsK_ok, ↓nxtK_nx, ↓nxtK_rt, ↓nxtK_bk, ↓nxtK_ct, ↓nxtK_ex, ↓VK_dat, ↓VK_own, ↓VK_dic, ↓X_V, ↓X_ret, ↓X_opt, ↓X_bind, ↓X_C, ↓X_nil, ↓X_no, ↓X_some, ↓X_yes, ↓X_cons, ↓X_bin, ↓X_un, ↓X_ix, ↓X_B, ↓X_BF, ↓X_binF, ↓X_tup, ↓X_lst, ↓X_lstF, ↓X_bOf, ↓X_and, ↓X_or, ↓X_not, ↓BoK_b, ↓X_eAnd, ↓X_eOr, ↓X_eNot, ↓X_eIf, ↓X_sl, ↓X_fz, ↓X_chain, ↓X_call, ↓X_meth, ↓X_rng1, ↓X_rng2, ↓X_rng3, ↓X_iA, ↓X_lr1, ↓X_lr2, ↓X_kget, ↓X_make, ↓X_get2, ↓X_get1, ↓X_eDic, ↓LsK_l, ↓X_idx, ↓X_VO, ↓X_BO, ↓X_BFO, ↓X_binO, ↓X_ixO, ↓MuK_own, ↓OwK_own, ↓X_mut, ↓Y_nx, ↓Y_pass, ↓Y_brk, ↓Y_cnt, ↓Y_retN, ↓Y_seq, ↓Y_asg, ↓Y_set, ↓Y_own, ↓Y_dat, ↓Y_dic, ↓Y_ret, ↓Y_expr, ↓Y_if, ↓Y_par, ↓Y_par3, ↓AuK_dat, ↓Y_aug, ↓Y_for, ↓Y_while, ↓Y_setIx, slotAt_eq, slotO_own, slotO_dic, g_N, g_two, g_three, g_T, g_L, g_nil, g_cons, Option.bind_some, Option.map_some, List.getElem?_cons_zero, List.getElem?_cons_succ, List.set_cons_zero, List.set_cons_succ, ↓X_W, ↓DrK_d, ↓WkK_d, ↓RwK_ok, ↓X_fzM, ↓X_prn, ↓X_prc, ↓X_disp, ↓X_vD, ↓X_vO, ↓X_vM, ↓Y_parK, asB_b, asI_i, eqD_ii, neD_ii, ltD_ii, leD_ii, gtD_ii, geD_ii, addD_ii, subD_ii, lenD_l, lenD_t, List.length_map, List.length_range, ↓lt_l0, ↓lt_ls, ↓le_l0, ↓le_ls, ↓ln_p, ↓eq_l0, ↓eq_ls, ↓sm_l, if_true, if_false, decide_true, decide_false, Bool.not_true, Bool.not_false, isi_int_s, wholeB, and_self]
              | list => simp only [↓Ep_K, ↓Wp_K, ↓IteK_t, ↓IteK_f, ↓OpK_some, ↓AndK_t, ↓RsK_ok, ↓nxtK_nx, ↓nxtK_rt, ↓nxtK_bk, ↓nxtK_ct, ↓nxtK_ex, ↓VK_dat, ↓VK_own, ↓VK_dic, ↓X_V, ↓X_ret, ↓X_opt, ↓X_bind, ↓X_C, ↓X_nil, ↓X_no, ↓X_some, ↓X_yes, ↓X_cons, ↓X_bin, ↓X_un, ↓X_ix, ↓X_B, ↓X_BF, ↓X_binF, ↓X_tup, ↓X_lst, ↓X_lstF, ↓X_bOf, ↓X_and, ↓X_or, ↓X_not, ↓BoK_b, ↓X_eAnd, ↓X_eOr, ↓X_eNot, ↓X_eIf, ↓X_sl, ↓X_fz, ↓X_chain, ↓X_call, ↓X_meth, ↓X_rng1, ↓X_rng2, ↓X_rng3, ↓X_iA, ↓X_lr1, ↓X_lr2, ↓X_kget, ↓X_make, ↓X_get2, ↓X_get1, ↓X_eDic, ↓LsK_l, ↓X_idx, ↓X_VO, ↓X_BO, ↓X_BFO, ↓X_binO, ↓X_ixO, ↓MuK_own, ↓OwK_own, ↓X_mut, ↓Y_nx, ↓Y_pass, ↓Y_brk, ↓Y_cnt, ↓Y_retN, ↓Y_seq, ↓Y_asg, ↓Y_set, ↓Y_own, ↓Y_dat, ↓Y_dic, ↓Y_ret, ↓Y_expr, ↓Y_if, ↓Y_par, ↓Y_par3, ↓AuK_dat, ↓Y_aug, ↓Y_for, ↓Y_while, ↓Y_setIx, slotAt_eq, slotO_own, slotO_dic, g_N, g_two, g_three, g_T, g_L, g_nil, g_cons, Option.bind_some, Option.map_some, List.getElem?_cons_zero, List.getElem?_cons_succ, List.set_cons_zero, List.set_cons_succ, ↓X_W, ↓DrK_d, ↓WkK_d, ↓RwK_ok, ↓X_fzM, ↓X_prn, ↓X_prc, ↓X_disp, ↓X_vD, ↓X_vO, ↓X_vM, ↓Y_parK, asB_b, asI_i, eqD_ii, neD_ii, ltD_ii, leD_ii, gtD_ii, geD_ii, addD_ii, subD_ii, lenD_l, lenD_t, List.length_map, List.length_range, ↓lt_l0, ↓lt_ls, ↓le_l0, ↓le_ls, ↓ln_p, ↓eq_l0, ↓eq_ls, ↓sm_l, if_true, if_false, decide_true, decide_false, Bool.not_true, Bool.not_false, isi_int_l, wholeB, and_self]
              | tuple => simp only [↓Ep_K, ↓Wp_K, ↓IteK_t, ↓IteK_f, ↓OpK_some, ↓AndK_t, ↓RsK_ok, ↓nxtK_nx, ↓nxtK_rt, ↓nxtK_bk, ↓nxtK_ct, ↓nxtK_ex, ↓VK_dat, ↓VK_own, ↓VK_dic, ↓X_V, ↓X_ret, ↓X_opt, ↓X_bind, ↓X_C, ↓X_nil, ↓X_no, ↓X_some, ↓X_yes, ↓X_cons, ↓X_bin, ↓X_un, ↓X_ix, ↓X_B, ↓X_BF, ↓X_binF, ↓X_tup, ↓X_lst, ↓X_lstF, ↓X_bOf, ↓X_and, ↓X_or, ↓X_not, ↓BoK_b, ↓X_eAnd, ↓X_eOr, ↓X_eNot, ↓X_eIf, ↓X_sl, ↓X_fz, ↓X_chain, ↓X_call, ↓X_meth, ↓X_rng1, ↓X_rng2, ↓X_rng3, ↓X_iA, ↓X_lr1, ↓X_lr2, ↓X_kget, ↓X_make, ↓X_get2, ↓X_get1, ↓X_eDic, ↓LsK_l, ↓X_idx, ↓X_VO, ↓X_BO, ↓X_BFO, ↓X_binO, ↓X_ixO, ↓MuK_own, ↓OwK_own, ↓X_mut, ↓Y_nx, ↓Y_pass, ↓Y_brk, ↓Y_cnt, ↓Y_retN, ↓Y_seq, ↓Y_asg, ↓Y_set, ↓Y_own, ↓Y_dat, ↓Y_dic, ↓Y_ret, ↓Y_expr, ↓Y_if, ↓Y_par, ↓Y_par3, ↓AuK_dat, ↓Y_aug, ↓Y_for, ↓Y_while, ↓Y_setIx, slotAt_eq, slotO_own, slotO_dic, g_N, g_two, g_three, g_T, g_L, g_nil, g_cons, Option.bind_some, Option.map_some, List.getElem?_cons_zero, List.getElem?_cons_succ, List.set_cons_zero, List.set_cons_succ, ↓X_W, ↓DrK_d, ↓WkK_d, ↓RwK_ok, ↓X_fzM, ↓X_prn, ↓X_prc, ↓X_disp, ↓X_vD, ↓X_vO, ↓X_vM, ↓Y_parK, asB_b, asI_i, eqD_ii, neD_ii, ltD_ii, leD_ii, gtD_ii, geD_ii, addD_ii, subD_ii, lenD_l, lenD_t, List.length_map, List.length_range, ↓lt_l0, ↓lt_ls, ↓le_l0, ↓le_ls, ↓ln_p, ↓eq_l0, ↓eq_ls, ↓sm_l, if_true, if_false, decide_true, decide_false, Bool.not_true, Bool.not_false, isi_int_t, wholeB, and_self]
            · simp only [↓Ep_K, ↓Wp_K, ↓IteK_t, ↓IteK_f, ↓OpK_some, ↓AndK_t, ↓RsK_ok, ↓nxtK_nx, ↓nxtK_rt, ↓nxtK_bk, ↓nxtK_ct, ↓nxtK_ex, ↓VK_dat, ↓VK_own, ↓VK_dic, ↓X_V, ↓X_ret, ↓X_opt, ↓X_bind, ↓X_C, ↓X_nil, ↓X_no, ↓X_some, ↓X_yes, ↓X_cons, ↓X_bin, ↓X_un, ↓X_ix, ↓X_B, ↓X_BF, ↓X_binF, ↓X_tup, ↓X_lst, ↓X_lstF, ↓X_bOf, ↓X_and, ↓X_or, ↓X_not, ↓BoK_b, ↓X_eAnd, ↓X_eOr, ↓X_eNot, ↓X_eIf, ↓X_sl, ↓X_fz, ↓X_chain, ↓X_call, ↓X_meth, ↓X_rng1, ↓X_rng2, ↓X_rng3, ↓X_iA, ↓X_lr1, ↓X_lr2, ↓X_kget, ↓X_make, ↓X_get2, ↓X_get1, ↓X_eDic, ↓LsK_l, ↓X_idx, ↓X_VO, ↓X_BO, ↓X_BFO, ↓X_binO, ↓X_ixO, ↓MuK_own, ↓OwK_own, ↓X_mut, ↓Y_nx, ↓Y_pass, ↓Y_brk, ↓Y_cnt, ↓Y_retN, ↓Y_seq, ↓Y_asg, ↓Y_set, ↓Y_own, ↓Y_dat, ↓Y_dic, ↓Y_ret, ↓Y_expr, ↓Y_if, ↓Y_par, ↓Y_par3, ↓AuK_dat, ↓Y_aug, ↓Y_for, ↓Y_while, ↓Y_setIx, slotAt_eq, slotO_own, slotO_dic, g_N, g_two, g_three, g_T, g_L, g_nil, g_cons, Option.bind_some, Option.map_some, List.getElem?_cons_zero, List.getElem?_cons_succ, List.set_cons_zero, List.set_cons_succ, ↓X_W, ↓DrK_d, ↓WkK_d, ↓RwK_ok, ↓X_fzM, ↓X_prn, ↓X_prc, ↓X_disp, ↓X_vD, ↓X_vO, ↓X_vM, ↓Y_parK, asB_b, asI_i, eqD_ii, neD_ii, ltD_ii, leD_ii, gtD_ii, geD_ii, addD_ii, subD_ii, lenD_l, lenD_t, List.length_map, List.length_range, ↓lt_l0, ↓lt_ls, ↓le_l0, ↓le_ls, ↓ln_p, ↓eq_l0, ↓eq_ls, ↓sm_l, if_true, if_false, decide_true, decide_false, Bool.not_true, Bool.not_false, and_self]
            · have e2 : decide (((ds.filter fun d => !wholeB 0 ((n : Int) - 1) d).length : Int) = 0) = wordB n long (.tuple ds) := by
                show _ = (decide (ds.length = long) && ds.all (wholeB 0 ((n : Int) - 1)))
                rw [Bool.eq_iff_iff]
                simp [hl]
              simp only [↓Ep_K, ↓Wp_K, ↓IteK_t, ↓IteK_f, ↓OpK_some, ↓AndK_t, ↓RsK_ok, ↓nxtK_nx, ↓nxtK_rt, ↓nxtK_bk, ↓nxtK_ct, ↓nxtK_ex, ↓VK_dat, ↓VK_own, ↓VK_dic, ↓X_V, ↓X_ret, ↓X_opt, ↓X_bind, ↓X_C, ↓X_nil, ↓X_no, ↓X_some, ↓X_yes, ↓X_cons, ↓X_bin, ↓X_un, ↓X_ix, ↓X_B, ↓X_BF, ↓X_binF, ↓X_tup, ↓X_lst, ↓X_lstF, ↓X_bOf, ↓X_and, ↓X_or, ↓X_not, ↓BoK_b, ↓X_eAnd, ↓X_eOr, ↓X_eNot, ↓X_eIf, ↓X_sl, ↓X_fz, ↓X_chain, ↓X_call, ↓X_meth, ↓X_rng1, ↓X_rng2, ↓X_rng3, ↓X_iA, ↓X_lr1, ↓X_lr2, ↓X_kget, ↓X_make, ↓X_get2, ↓X_get1, ↓X_eDic, ↓LsK_l, ↓X_idx, ↓X_VO, ↓X_BO, ↓X_BFO, ↓X_binO, ↓X_ixO, ↓MuK_own, ↓OwK_own, ↓X_mut, ↓Y_nx, ↓Y_pass, ↓Y_brk, ↓Y_cnt, ↓Y_retN, ↓Y_seq, ↓Y_asg, ↓Y_set, ↓Y_own, ↓Y_dat, ↓Y_dic, ↓Y_ret, ↓Y_expr, ↓Y_if, ↓Y_par, ↓Y_par3, ↓AuK_dat, ↓Y_aug, ↓Y_for, ↓Y_while, ↓Y_setIx, slotAt_eq, slotO_own, slotO_dic, g_N, g_two, g_three, g_T, g_L, g_nil, g_cons, Option.bind_some, Option.map_some, List.getElem?_cons_zero, List.getElem?_cons_succ, List.set_cons_zero, List.set_cons_succ, ↓X_W, ↓DrK_d, ↓WkK_d, ↓RwK_ok, ↓X_fzM, ↓X_prn, ↓X_prc, ↓X_disp, ↓X_vD, ↓X_vO, ↓X_vM, ↓Y_parK, asB_b, asI_i, eqD_ii, neD_ii, ltD_ii, leD_ii, gtD_ii, geD_ii, addD_ii, subD_ii, lenD_l, lenD_t, List.length_map, List.length_range, ↓lt_l0, ↓lt_ls, ↓le_l0, ↓le_ls, ↓ln_p, ↓eq_l0, ↓eq_ls, ↓sm_l, if_true, if_false, decide_true, decide_false, Bool.not_true, Bool.not_false, e2, and_self]
          · have e1 : decide ((ds.length : Int) = long) = false := by simp; omega
            have e2 : wordB n long (.tuple ds) = false := by
              show (decide (ds.length = long) && _) = false
              simp [hl]
            simp only [↓Ep_K, ↓Wp_K, ↓IteK_t, ↓IteK_f, ↓OpK_some, ↓AndK_t, ↓RsK_ok, ↓nxtK_nx, ↓nxtK_rt, ↓nxtK_bk, ↓nxtK_ct, ↓nxtK_ex, ↓VK_dat, ↓VK_own, ↓VK_dic, ↓X_V, ↓X_ret, ↓X_opt, ↓X_bind, ↓X_C, ↓X_nil, ↓X_no, ↓X_some, ↓X_yes, ↓X_cons, ↓X_bin, ↓X_un, ↓X_ix, ↓X_B, ↓X_BF, ↓X_binF, ↓X_tup, ↓X_lst, ↓X_lstF, ↓X_bOf, ↓X_and, ↓X_or, ↓X_not, ↓BoK_b, ↓X_eAnd, ↓X_eOr, ↓X_eNot, ↓X_eIf, ↓X_sl, ↓X_fz, ↓X_chain, ↓X_call, ↓X_meth, ↓X_rng1, ↓X_rng2, ↓X_rng3, ↓X_iA, ↓X_lr1, ↓X_lr2, ↓X_kget, ↓X_make, ↓X_get2, ↓X_get1, ↓X_eDic, ↓LsK_l, ↓X_idx, ↓X_VO, ↓X_BO, ↓X_BFO, ↓X_binO, ↓X_ixO, ↓MuK_own, ↓OwK_own, ↓X_mut, ↓Y_nx, ↓Y_pass, ↓Y_brk, ↓Y_cnt, ↓Y_retN, ↓Y_seq, ↓Y_asg, ↓Y_set, ↓Y_own, ↓Y_dat, ↓Y_dic, ↓Y_ret, ↓Y_expr, ↓Y_if, ↓Y_par, ↓Y_par3, ↓AuK_dat, ↓Y_aug, ↓Y_for, ↓Y_while, ↓Y_setIx, slotAt_eq, slotO_own, slotO_dic, g_N, g_two, g_three, g_T, g_L, g_nil, g_cons, Option.bind_some, Option.map_some, List.getElem?_cons_zero, List.getElem?_cons_succ, List.set_cons_zero, List.set_cons_succ, ↓X_W, ↓DrK_d, ↓WkK_d, ↓RwK_ok, ↓X_fzM, ↓X_prn, ↓X_prc, ↓X_disp, ↓X_vD, ↓X_vO, ↓X_vM, ↓Y_parK, asB_b, asI_i, eqD_ii, neD_ii, ltD_ii, leD_ii, gtD_ii, geD_ii, addD_ii, subD_ii, lenD_l, lenD_t, List.length_map, List.length_range, ↓lt_l0, ↓lt_ls, ↓le_l0, ↓le_ls, ↓ln_p, ↓eq_l0, ↓eq_ls, ↓sm_l, if_true, if_false, decide_true, decide_false, Bool.not_true, Bool.not_false, e1, e2, and_self]
        | dict => cases hv.1
        | bool => simp only [↓Ep_K, ↓Wp_K, ↓IteK_t, ↓IteK_f, ↓OpK_some, ↓AndK_t, ↓RsK_ok, ↓nxtK_nx, ↓nxtK_rt, ↓nxtK_bk, ↓nxtK_ct, ↓nxtK_ex, ↓VK_dat, ↓VK_own, ↓VK_dic, ↓X_V, ↓X_ret, ↓X_opt, ↓X_bind, ↓X_C, ↓X_nil, ↓X_no, ↓X_some, ↓X_yes, ↓X_cons, ↓X_bin, ↓X_un, ↓X_ix, ↓X_B, ↓X_BF, ↓X_binF, ↓X_tup, ↓X_lst, ↓X_lstF, ↓X_bOf, ↓X_and, ↓X_or, ↓X_not, ↓BoK_b, ↓X_eAnd, ↓X_eOr, ↓X_eNot, ↓X_eIf, ↓X_sl, ↓X_fz, ↓X_chain, ↓X_call, ↓X_meth, ↓X_rng1, ↓X_rng2, ↓X_rng3, ↓X_iA, ↓X_lr1, ↓X_lr2, ↓X_kget, ↓X_make, ↓X_get2, ↓X_get1, ↓X_eDic, ↓LsK_l, ↓X_idx, ↓X_VO, ↓X_BO, ↓X_BFO, ↓X_binO, ↓X_ixO, ↓MuK_own, ↓OwK_own, ↓X_mut, ↓Y_nx, ↓Y_pass, ↓Y_brk, ↓Y_cnt, ↓Y_retN, ↓Y_seq, ↓Y_asg, ↓Y_set, ↓Y_own, ↓Y_dat, ↓Y_dic, ↓Y_ret, ↓Y_expr, ↓Y_if, ↓Y_par, ↓Y_par3, ↓AuK_dat, ↓Y_aug, ↓Y_for, ↓Y_while, ↓Y_setIx, slotAt_eq, slotO_own, slotO_dic, g_N, g_two, g_three, g_T, g_L, g_nil, g_cons, Option.bind_some, Option.map_some, List.getElem?_cons_zero, List.getElem?_cons_succ, List.set_cons_zero, List.set_cons_succ, ↓X_W, ↓DrK_d, ↓WkK_d, ↓RwK_ok, ↓X_fzM, ↓X_prn, ↓X_prc, ↓X_disp, ↓X_vD, ↓X_vO, ↓X_vM, ↓Y_parK, asB_b, asI_i, eqD_ii, neD_ii, ltD_ii, leD_ii, gtD_ii, geD_ii, addD_ii, subD_ii, lenD_l, lenD_t, List.length_map, List.length_range, ↓lt_l0, ↓lt_ls, ↓le_l0, ↓le_ls, ↓ln_p, ↓eq_l0, ↓eq_ls, ↓sm_l, if_true, if_false, decide_true, decide_false, Bool.not_true, Bool.not_false, isi_tup_b, wordB, and_self]
        | none => simp only [↓Ep_K, ↓Wp_K, ↓IteK_t, ↓IteK_f, ↓OpK_some, ↓AndK_t, ↓RsK_ok, ↓nxtK_nx, ↓nxtK_rt, ↓nxtK_bk, ↓nxtK_ct, ↓nxtK_ex, ↓VK_dat, ↓VK_own, ↓VK_dic, ↓X_V, ↓X_ret, ↓X_opt, ↓X_bind, ↓X_C, ↓X_nil, ↓X_no, ↓X_some, ↓X_yes, ↓X_cons, ↓X_bin, ↓X_un, ↓X_ix, ↓X_B, ↓X_BF, ↓X_binF, ↓X_tup, ↓X_lst, ↓X_lstF, ↓X_bOf, ↓X_and, ↓X_or, ↓X_not, ↓BoK_b, ↓X_eAnd, ↓X_eOr, ↓X_eNot, ↓X_eIf, ↓X_sl, ↓X_fz, ↓X_chain, ↓X_call, ↓X_meth, ↓X_rng1, ↓X_rng2, ↓X_rng3, ↓X_iA, ↓X_lr1, ↓X_lr2, ↓X_kget, ↓X_make, ↓X_get2, ↓X_get1, ↓X_eDic, ↓LsK_l, ↓X_idx, ↓X_VO, ↓X_BO, ↓X_BFO, ↓X_binO, ↓X_ixO, ↓MuK_own, ↓OwK_own, ↓X_mut, ↓Y_nx, ↓Y_pass, ↓Y_brk, ↓Y_cnt, ↓Y_retN, ↓Y_seq, ↓Y_asg, ↓Y_set, ↓Y_own, ↓Y_dat, ↓Y_dic, ↓Y_ret, ↓Y_expr, ↓Y_if, ↓Y_par, ↓Y_par3, ↓AuK_dat, ↓Y_aug, ↓Y_for, ↓Y_while, ↓Y_setIx, slotAt_eq, slotO_own, slotO_dic, g_N, g_two, g_three, g_T, g_L, g_nil, g_cons, Option.bind_some, Option.map_some, List.getElem?_cons_zero, List.getElem?_cons_succ, List.set_cons_zero, List.set_cons_succ, ↓X_W, ↓DrK_d, ↓WkK_d, ↓RwK_ok, ↓X_fzM, ↓X_prn, ↓X_prc, ↓X_disp, ↓X_vD, ↓X_vO, ↓X_vM, ↓Y_parK, asB_b, asI_i, eqD_ii, neD_ii, ltD_ii, leD_ii, gtD_ii, geD_ii, addD_ii, subD_ii, lenD_l, lenD_t, List.length_map, List.length_range, ↓lt_l0, ↓lt_ls, ↓le_l0, ↓le_ls, ↓ln_p, ↓eq_l0, ↓eq_ls, ↓sm_l, if_true, if_false, decide_true, decide_false, Bool.not_true, Bool.not_false, isi_tup_n, wordB, and_self]
        | str => simp only [↓Ep_K, ↓Wp_K, ↓IteK_t, ↓IteK_f, ↓OpK_some, ↓AndK_t, ↓RsK_ok, ↓nxtK_nx, ↓nxtK_rt, ↓nxtK_bk, ↓nxtK_ct, ↓nxtK_ex, ↓VK_dat, ↓VK_own, ↓VK_dic, ↓X_V, ↓X_ret, ↓X_opt, ↓X_bind, ↓X_C, ↓X_nil, ↓X_no, ↓X_some, ↓X_yes, ↓X_cons, ↓X_bin, ↓X_un, ↓X_ix, ↓X_B, ↓X_BF, ↓X_binF, ↓X_tup, ↓X_lst, ↓X_lstF, ↓X_bOf, ↓X_and, ↓X_or, ↓X_not, ↓BoK_b, ↓X_eAnd, ↓X_eOr, ↓X_eNot, ↓X_eIf, ↓X_sl, ↓X_fz, ↓X_chain, ↓X_call, ↓X_meth, ↓X_rng1, ↓X_rng2, ↓X_rng3, ↓X_iA, ↓X_lr1, ↓X_lr2, ↓X_kget, ↓X_make, ↓X_get2, ↓X_get1, ↓X_eDic, ↓LsK_l, ↓X_idx, ↓X_VO, ↓X_BO, ↓X_BFO, ↓X_binO, ↓X_ixO, ↓MuK_own, ↓OwK_own, ↓X_mut, ↓Y_nx, ↓Y_pass, ↓Y_brk, ↓Y_cnt, ↓Y_retN, ↓Y_seq, ↓Y_asg, ↓Y_set, ↓Y_own, ↓Y_dat, ↓Y_dic, ↓Y_ret, ↓Y_expr, ↓Y_if, ↓Y_par, ↓Y_par3, ↓AuK_dat, ↓Y_aug, ↓Y_for, ↓Y_while, ↓Y_setIx, slotAt_eq, slotO_own, slotO_dic, g_N, g_two, g_three, g_T, g_L, g_nil, g_cons, Option.bind_some, Option.map_some, List.getElem?_cons_zero, List.getElem?_cons_succ, List.set_cons_zero, List.set_cons_succ, ↓X_W, ↓DrK_d, ↓WkK_d, ↓RwK_ok, ↓X_fzM, ↓X_prn, ↓X_prc, ↓X_disp, ↓X_vD, ↓X_vO, ↓X_vM, ↓Y_parK, asB_b, asI_i, eqD_ii, neD_ii, ltD_ii, leD_ii, gtD_ii, geD_ii, addD_ii, subD_ii, lenD_l, lenD_t, List.length_map, List.length_range, ↓lt_l0, ↓lt_ls, ↓le_l0, ↓le_ls, ↓ln_p, ↓eq_l0, ↓eq_ls, ↓sm_l, if_true, if_false, decide_true, decide_false, Bool.not_true, Bool.not_false, isi_tup_s, wordB, and_self]
        | list => simp only [↓Ep_K, ↓Wp_K, ↓IteK_t, ↓IteK_f, ↓OpK_some, ↓AndK_t, ↓RsK_ok, ↓nxtK_nx, ↓nxtK_rt, ↓nxtK_bk, ↓nxtK_ct, ↓nxtK_ex, ↓VK_dat, ↓VK_own, ↓VK_dic, ↓X_V, ↓X_ret, ↓X_opt, ↓X_bind, ↓X_C, ↓X_nil, ↓X_no, ↓X_some, ↓X_yes, ↓X_cons, ↓X_bin, ↓X_un, ↓X_ix, ↓X_B, ↓X_BF, ↓X_binF, ↓X_tup, ↓X_lst, ↓X_lstF, ↓X_bOf, ↓X_and, ↓X_or, ↓X_not, ↓BoK_b, ↓X_eAnd, ↓X_eOr, ↓X_eNot, ↓X_eIf, ↓X_sl, ↓X_fz, ↓X_chain, ↓X_call, ↓X_meth, ↓X_rng1, ↓X_rng2, ↓X_rng3, ↓X_iA, ↓X_lr1, ↓X_lr2, ↓X_kget, ↓X_make, ↓X_get2, ↓X_get1, ↓X_eDic, ↓LsK_l, ↓X_idx, ↓X_VO, ↓X_BO, ↓X_BFO, ↓X_binO, ↓X_ixO, ↓MuK_own, ↓OwK_own, ↓X_mut, ↓Y_nx, ↓Y_pass, ↓Y_brk, ↓Y_cnt, ↓Y_retN, ↓Y_seq, ↓Y_asg, ↓Y_set, ↓Y_own, ↓Y_dat, ↓Y_dic, ↓Y_ret, ↓Y_expr, ↓Y_if, ↓Y_par, ↓Y_par3, ↓AuK_dat, ↓Y_aug, ↓Y_for, ↓Y_while, ↓Y_setIx, slotAt_eq, slotO_own, slotO_dic, g_N, g_two, g_three, g_T, g_L, g_nil, g_cons, Option.bind_some, Option.map_some, List.getElem?_cons_zero, List.getElem?_cons_succ, List.set_cons_zero, List.set_cons_succ, ↓X_W, ↓DrK_d, ↓WkK_d, ↓RwK_ok, ↓X_fzM, ↓X_prn, ↓X_prc, ↓X_disp, ↓X_vD, ↓X_vO, ↓X_vM, ↓Y_parK, asB_b, asI_i, eqD_ii, neD_ii, ltD_ii, leD_ii, gtD_ii, geD_ii, addD_ii, subD_ii, lenD_l, lenD_t, List.length_map, List.length_range, ↓lt_l0, ↓lt_ls, ↓le_l0, ↓le_ls, ↓ln_p, ↓eq_l0, ↓eq_ls, ↓sm_l, if_true, if_false, decide_true, decide_false, Bool.not_true, Bool.not_false, isi_tup_l, wordB, and_self]
        | int => simp only [↓Ep_K, ↓Wp_K, ↓IteK_t, ↓IteK_f, ↓OpK_some, ↓AndK_t, ↓RsK_ok, ↓nxtK_nx, ↓nxtK_rt, ↓nxtK_bk, ↓nxtK_ct, ↓nxtK_ex, ↓VK_dat, ↓VK_own, ↓VK_dic, ↓X_V, ↓X_ret, ↓X_opt, ↓X_bind, ↓X_C, ↓X_nil, ↓X_no, ↓X_some, ↓X_yes, ↓X_cons, ↓X_bin, ↓X_un, ↓X_ix, ↓X_B, ↓X_BF, ↓X_binF, ↓X_tup, ↓X_lst, ↓X_lstF, ↓X_bOf, ↓X_and, ↓X_or, ↓X_not, ↓BoK_b, ↓X_eAnd, ↓X_eOr, ↓X_eNot, ↓X_eIf, ↓X_sl, ↓X_fz, ↓X_chain, ↓X_call, ↓X_meth, ↓X_rng1, ↓X_rng2, ↓X_rng3, ↓X_iA, ↓X_lr1, ↓X_lr2, ↓X_kget, ↓X_make, ↓X_get2, ↓X_get1, ↓X_eDic, ↓LsK_l, ↓X_idx, ↓X_VO, ↓X_BO, ↓X_BFO, ↓X_binO, ↓X_ixO, ↓MuK_own, ↓OwK_own, ↓X_mut, ↓Y_nx, ↓Y_pass, ↓Y_brk, ↓Y_cnt, ↓Y_retN, ↓Y_seq, ↓Y_asg, ↓Y_set, ↓Y_own, ↓Y_dat, ↓Y_dic, ↓Y_ret, ↓Y_expr, ↓Y_if, ↓Y_par, ↓Y_par3, ↓AuK_dat, ↓Y_aug, ↓Y_for, ↓Y_while, ↓Y_setIx, slotAt_eq, slotO_own, slotO_dic, g_N, g_two, g_three, g_T, g_L, g_nil, g_cons, Option.bind_some, Option.map_some, List.getElem?_cons_zero, List.getElem?_cons_succ, List.set_cons_zero, List.set_cons_succ, ↓X_W, ↓DrK_d, ↓WkK_d, ↓RwK_ok, ↓X_fzM, ↓X_prn, ↓X_prc, ↓X_disp, ↓X_vD, ↓X_vO, ↓X_vM, ↓Y_parK, asB_b, asI_i, eqD_ii, neD_ii, ltD_ii, leD_ii, gtD_ii, geD_ii, addD_ii, subD_ii, lenD_l, lenD_t, List.length_map, List.length_range, ↓lt_l0, ↓lt_ls, ↓le_l0, ↓le_ls, ↓ln_p, ↓eq_l0, ↓eq_ls, ↓sm_l, if_true, if_false, decide_true, decide_false, Bool.not_true, Bool.not_false, isi_tup_i, wordB, and_self]
      · simp only [↓Ep_K, ↓Wp_K, ↓IteK_t, ↓IteK_f, ↓OpK_some, ↓AndK_t, ↓RsK_ok, ↓nxtK_nx, ↓nxtK_rt, ↓nxtK_bk, ↓nxtK_ct, ↓nxtK_ex, ↓VK_dat, ↓VK_own, ↓VK_dic, ↓X_V, ↓X_ret, ↓X_opt, ↓X_bind, ↓X_C, ↓X_nil, ↓X_no, ↓X_some, ↓X_yes, ↓X_cons, ↓X_bin, ↓X_un, ↓X_ix, ↓X_B, ↓X_BF, ↓X_binF, ↓X_tup, ↓X_lst, ↓X_lstF, ↓X_bOf, ↓X_and, ↓X_or, ↓X_not, ↓BoK_b, ↓X_eAnd, ↓X_eOr, ↓X_eNot, ↓X_eIf, ↓X_sl, ↓X_fz, ↓X_chain, ↓X_call, ↓X_meth, ↓X_rng1, ↓X_rng2, ↓X_rng3, ↓X_iA, ↓X_lr1, ↓X_lr2, ↓X_kget, ↓X_make, ↓X_get2, ↓X_get1, ↓X_eDic, ↓LsK_l, ↓X_idx, ↓X_VO, ↓X_BO, ↓X_BFO, ↓X_binO, ↓X_ixO, ↓MuK_own, ↓OwK_own, ↓X_mut, ↓Y_nx, ↓Y_pass, ↓Y_brk, ↓Y_cnt, ↓Y_retN, ↓Y_seq, ↓Y_asg, ↓Y_set, ↓Y_own, ↓Y_dat, ↓Y_dic, ↓Y_ret, ↓Y_expr, ↓Y_if, ↓Y_par, ↓Y_par3, ↓AuK_dat, ↓Y_aug, ↓Y_for, ↓Y_while, ↓Y_setIx, slotAt_eq, slotO_own, slotO_dic, g_N, g_two, g_three, g_T, g_L, g_nil, g_cons, Option.bind_some, Option.map_some, List.getElem?_cons_zero, List.getElem?_cons_succ, List.set_cons_zero, List.set_cons_succ, ↓X_W, ↓DrK_d, ↓WkK_d, ↓RwK_ok, ↓X_fzM, ↓X_prn, ↓X_prc, ↓X_disp, ↓X_vD, ↓X_vO, ↓X_vM, ↓Y_parK, asB_b, asI_i, eqD_ii, neD_ii, ltD_ii, leD_ii, gtD_ii, geD_ii, addD_ii, subD_ii, lenD_l, lenD_t, List.length_map, List.length_range, ↓lt_l0, ↓lt_ls, ↓le_l0, ↓le_ls, ↓ln_p, ↓eq_l0, ↓eq_ls, ↓sm_l, if_true, if_false, decide_true, decide_false, Bool.not_true, Bool.not_false, hword, neD_bb]
        exact ⟨(some _, some _), .inl rfl⟩
    · simp only [↓Ep_K, ↓Wp_K, ↓IteK_t, ↓IteK_f, ↓OpK_some, ↓AndK_t, ↓RsK_ok, ↓nxtK_nx, ↓nxtK_rt, ↓nxtK_bk, ↓nxtK_ct, ↓nxtK_ex, ↓VK_dat, ↓VK_own, ↓VK_dic, ↓X_V, ↓X_ret, ↓X_opt, ↓X_bind, ↓X_C, ↓X_nil, ↓X_no, ↓X_some, ↓X_yes, ↓X_cons, ↓X_bin, ↓X_un, ↓X_ix, ↓X_B, ↓X_BF, ↓X_binF, ↓X_tup, ↓X_lst, ↓X_lstF, ↓X_bOf, ↓X_and, ↓X_or, ↓X_not, ↓BoK_b, ↓X_eAnd, ↓X_eOr, ↓X_eNot, ↓X_eIf, ↓X_sl, ↓X_fz, ↓X_chain, ↓X_call, ↓X_meth, ↓X_rng1, ↓X_rng2, ↓X_rng3, ↓X_iA, ↓X_lr1, ↓X_lr2, ↓X_kget, ↓X_make, ↓X_get2, ↓X_get1, ↓X_eDic, ↓LsK_l, ↓X_idx, ↓X_VO, ↓X_BO, ↓X_BFO, ↓X_binO, ↓X_ixO, ↓MuK_own, ↓OwK_own, ↓X_mut, ↓Y_nx, ↓Y_pass, ↓Y_brk, ↓Y_cnt, ↓Y_retN, ↓Y_seq, ↓Y_asg, ↓Y_set, ↓Y_own, ↓Y_dat, ↓Y_dic, ↓Y_ret, ↓Y_expr, ↓Y_if, ↓Y_par, ↓Y_par3, ↓AuK_dat, ↓Y_aug, ↓Y_for, ↓Y_while, ↓Y_setIx, slotAt_eq, slotO_own, slotO_dic, g_N, g_two, g_three, g_T, g_L, g_nil, g_cons, Option.bind_some, Option.map_some, List.getElem?_cons_zero, List.getElem?_cons_succ, List.set_cons_zero, List.set_cons_succ, ↓X_W, ↓DrK_d, ↓WkK_d, ↓RwK_ok, ↓X_fzM, ↓X_prn, ↓X_prc, ↓X_disp, ↓X_vD, ↓X_vO, ↓X_vM, ↓Y_parK, asB_b, asI_i, eqD_ii, neD_ii, ltD_ii, leD_ii, gtD_ii, geD_ii, addD_ii, subD_ii, lenD_l, lenD_t, List.length_map, List.length_range, ↓lt_l0, ↓lt_ls, ↓le_l0, ↓le_ls, ↓ln_p, ↓eq_l0, ↓eq_ls, ↓sm_l, if_true, if_false, decide_true, decide_false, Bool.not_true, Bool.not_false]
      refine E_mapG (fun d : D => d) [.int n, .int 6, .int 10, .int 1, .int 0, .int 17, .bool true, .none, .str "2", .int (-2), .int 12, .int 14, .int 15] (fun d => .bool (sizeB d)) ?_ (by simp) (by first | rfl | (simp [plainAt, plain_gv]; done) | (simp [plainAt, plain_gv, plainSlot]; done)) (by simp) (fun v hv => ?_) ?_
      · simp only [↓Ep_K, ↓Wp_K, ↓IteK_t, ↓IteK_f, ↓OpK_some, ↓AndK_t, ↓RsK_ok, ↓nxtK_nx, ↓nxtK_rt, ↓nxtK_bk, ↓nxtK_ct, ↓nxtK_ex, ↓VK_dat, ↓VK_own, ↓VK_dic, ↓X_V, ↓X_ret, ↓X_opt, ↓X_bind, ↓X_C, ↓X_nil, ↓X_no, ↓X_some, ↓X_yes, ↓X_cons, ↓X_bin, ↓X_un, ↓X_ix, ↓X_B, ↓X_BF, ↓X_binF, ↓X_tup, ↓X_lst, ↓X_lstF, ↓X_bOf, ↓X_and, ↓X_or, ↓X_not, ↓BoK_b, ↓X_eAnd, ↓X_eOr, ↓X_eNot, ↓X_eIf, ↓X_sl, ↓X_fz, ↓X_chain, ↓X_call, ↓X_meth, ↓X_rng1, ↓X_rng2, ↓X_rng3, ↓X_iA, ↓X_lr1, ↓X_lr2, ↓X_kget, ↓X_make, ↓X_get2, ↓X_get1, ↓X_eDic, ↓LsK_l, ↓X_idx, ↓X_VO, ↓X_BO, ↓X_BFO, ↓X_binO, ↓X_ixO, ↓MuK_own, ↓OwK_own, ↓X_mut, ↓Y_nx, ↓Y_pass, ↓Y_brk, ↓Y_cnt, ↓Y_retN, ↓Y_seq, ↓Y_asg, ↓Y_set, ↓Y_own, ↓Y_dat, ↓Y_dic, ↓Y_ret, ↓Y_expr, ↓Y_if, ↓Y_par, ↓Y_par3, ↓AuK_dat, ↓Y_aug, ↓Y_for, ↓Y_while, ↓Y_setIx, slotAt_eq, slotO_own, slotO_dic, g_N, g_two, g_three, g_T, g_L, g_nil, g_cons, Option.bind_some, Option.map_some, List.getElem?_cons_zero, List.getElem?_cons_succ, List.set_cons_zero, List.set_cons_succ, ↓X_W, ↓DrK_d, ↓WkK_d, ↓RwK_ok, ↓X_fzM, ↓X_prn, ↓X_prc, ↓X_disp, ↓X_vD, ↓X_vO, ↓X_vM, ↓Y_parK, asB_b, asI_i, eqD_ii, neD_ii, ltD_ii, leD_ii, gtD_ii, geD_ii, addD_ii, subD_ii, lenD_l, lenD_t, List.length_map, List.length_range, ↓lt_l0, ↓lt_ls, ↓le_l0, ↓le_ls, ↓ln_p, ↓eq_l0, ↓eq_ls, ↓sm_l, if_true, if_false, decide_true, decide_false, Bool.not_true, Bool.not_false, hneg2, walk_l, List.map_id', and_self]
      · have hnd : notDict v = true := by
          simp only [List.mem_cons, List.not_mem_nil, or_false] at hv
          rcases hv with rfl | rfl | rfl | rfl | rfl | rfl | rfl | rfl | rfl | rfl | rfl | rfl | rfl <;> rfl
        simp only [↓Ep_K, ↓Wp_K, ↓IteK_t, ↓IteK_f, ↓OpK_some, ↓AndK_t, ↓RsK_ok, ↓nxtK_nx, ↓nxtK_rt, ↓nxtK_bk, ↓nxtK_ct, ↓nxtK_ex, ↓VK_dat, ↓VK_own, ↓VK_dic, ↓X_V, ↓X_ret, ↓X_opt, ↓X_bind, ↓X_C, ↓X_nil, ↓X_no, ↓X_some, ↓X_yes, ↓X_cons, ↓X_bin, ↓X_un, ↓X_ix, ↓X_B, ↓X_BF, ↓X_binF, ↓X_tup, ↓X_lst, ↓X_lstF, ↓X_bOf, ↓X_and, ↓X_or, ↓X_not, ↓BoK_b, ↓X_eAnd, ↓X_eOr, ↓X_eNot, ↓X_eIf, ↓X_sl, ↓X_fz, ↓X_chain, ↓X_call, ↓X_meth, ↓X_rng1, ↓X_rng2, ↓X_rng3, ↓X_iA, ↓X_lr1, ↓X_lr2, ↓X_kget, ↓X_make, ↓X_get2, ↓X_get1, ↓X_eDic, ↓LsK_l, ↓X_idx, ↓X_VO, ↓X_BO, ↓X_BFO, ↓X_binO, ↓X_ixO, ↓MuK_own, ↓OwK_own, ↓X_mut, ↓Y_nx, ↓Y_pass, ↓Y_brk, ↓Y_cnt, ↓Y_retN, ↓Y_seq, ↓Y_asg, ↓Y_set, ↓Y_own, ↓Y_dat, ↓Y_dic, ↓Y_ret, ↓Y_expr, ↓Y_if, ↓Y_par, ↓Y_par3, ↓AuK_dat, ↓Y_aug, ↓Y_for, ↓Y_while, ↓Y_setIx, slotAt_eq, slotO_own, slotO_dic, g_N, g_two, g_three, g_T, g_L, g_nil, g_cons, Option.bind_some, Option.map_some, List.getElem?_cons_zero, List.getElem?_cons_succ, List.set_cons_zero, List.set_cons_succ, ↓X_W, ↓DrK_d, ↓WkK_d, ↓RwK_ok, ↓X_fzM, ↓X_prn, ↓X_prc, ↓X_disp, ↓X_vD, ↓X_vO, ↓X_vM, ↓Y_parK, asB_b, asI_i, eqD_ii, neD_ii, ltD_ii, leD_ii, gtD_ii, geD_ii, addD_ii, subD_ii, lenD_l, lenD_t, List.length_map, List.length_range, ↓lt_l0, ↓lt_ls, ↓le_l0, ↓le_ls, ↓ln_p, ↓eq_l0, ↓eq_ls, ↓sm_l, if_true, if_false, decide_true, decide_false, Bool.not_true, Bool.not_false, is_size_eq hnd, and_self]
      · have hn3 : sizeB (.int n) = true := by
          have hn2 : n = 2 ∨ n = 3 ∨ n = 4 ∨ n = 5 ∨ n = 7 ∨ n = 8 ∨ n = 9 ∨ n = 11 ∨ n = 13 ∨ n = 16 := by simpa [sizesN] using hn
          rcases hn2 with rfl | rfl | rfl | rfl | rfl | rfl | rfl | rfl | rfl | rfl <;> decide
        have hm : mulD (.list [.bool false]) (.int 12) = some (.list (List.replicate 12 (.bool false))) := rfl
        have ha : addD (.list [.bool true]) (.list (List.replicate 12 (.bool false))) = some (.list (.bool true :: List.replicate 12 (.bool false))) := rfl
        have hl : [PyData.int n, .int 6, .int 10, .int 1, .int 0, .int 17, .bool true, .none, .str "2", .int (-2), .int 12, .int 14, .int 15].map (fun d => PyData.bool (sizeB d)) = .bool true :: List.replicate 12 (.bool false) := by
          rw [List.map_cons, hn3]
          congr 1
        have hq : neD (.list (.bool true :: List.replicate 12 (.bool false))) (.list (.bool true :: List.replicate 12 (.bool false))) = some (.bool false) := neD_self rfl rfl
        have w1 := is_whole_eq (d := .int 3) (lo := 0) (hi := 3) rfl
        have w2 := is_whole_eq (d := .int 4) (lo := 0) (hi := 3) rfl
        have w3 := is_whole_eq (d := .bool true) (lo := 0) (hi := 3) rfl
        have w4 := is_whole_eq (d := .str "1") (lo := 0) (hi := 3) rfl
        rw [hl]
        simp only [↓Ep_K, ↓Wp_K, ↓IteK_t, ↓IteK_f, ↓OpK_some, ↓AndK_t, ↓RsK_ok, ↓nxtK_nx, ↓nxtK_rt, ↓nxtK_bk, ↓nxtK_ct, ↓nxtK_ex, ↓VK_dat, ↓VK_own, ↓VK_dic, ↓X_V, ↓X_ret, ↓X_opt, ↓X_bind, ↓X_C, ↓X_nil, ↓X_no, ↓X_some, ↓X_yes, ↓X_cons, ↓X_bin, ↓X_un, ↓X_ix, ↓X_B, ↓X_BF, ↓X_binF, ↓X_tup, ↓X_lst, ↓X_lstF, ↓X_bOf, ↓X_and, ↓X_or, ↓X_not, ↓BoK_b, ↓X_eAnd, ↓X_eOr, ↓X_eNot, ↓X_eIf, ↓X_sl, ↓X_fz, ↓X_chain, ↓X_call, ↓X_meth, ↓X_rng1, ↓X_rng2, ↓X_rng3, ↓X_iA, ↓X_lr1, ↓X_lr2, ↓X_kget, ↓X_make, ↓X_get2, ↓X_get1, ↓X_eDic, ↓LsK_l, ↓X_idx, ↓X_VO, ↓X_BO, ↓X_BFO, ↓X_binO, ↓X_ixO, ↓MuK_own, ↓OwK_own, ↓X_mut, ↓Y_nx, ↓Y_pass, ↓Y_brk, ↓Y_cnt, ↓Y_retN, ↓Y_seq, ↓Y_asg, ↓Y_set, ↓Y_own, ↓Y_dat, ↓Y_dic, ↓Y_ret, ↓Y_expr, ↓Y_if, ↓Y_par, ↓Y_par3, ↓AuK_dat, ↓Y_aug, ↓Y_for, ↓Y_while, ↓Y_setIx, slotAt_eq, slotO_own, slotO_dic, g_N, g_two, g_three, g_T, g_L, g_nil, g_cons, Option.bind_some, Option.map_some, List.getElem?_cons_zero, List.getElem?_cons_succ, List.set_cons_zero, List.set_cons_succ, ↓X_W, ↓DrK_d, ↓WkK_d, ↓RwK_ok, ↓X_fzM, ↓X_prn, ↓X_prc, ↓X_disp, ↓X_vD, ↓X_vO, ↓X_vM, ↓Y_parK, asB_b, asI_i, eqD_ii, neD_ii, ltD_ii, leD_ii, gtD_ii, geD_ii, addD_ii, subD_ii, lenD_l, lenD_t, List.length_map, List.length_range, ↓lt_l0, ↓lt_ls, ↓le_l0, ↓le_ls, ↓ln_p, ↓eq_l0, ↓eq_ls, ↓sm_l, if_true, if_false, decide_true, decide_false, Bool.not_true, Bool.not_false, hm, ha, hq, w1, w2, w3, w4]
        refine OpK.of (a := .bool true) rfl ?_
        exact ⟨_, rfl⟩
  obtain ⟨_, S, e⟩ := key
  exact ⟨S, e⟩
end FW

namespace FW
open PySem PySem.Spec L2
open PyProof.Rows hiding St
/-! ### the head -/
def d_number_of : He.DefD := ⟨("number_of", none), "number_of", "number_of", defArgs s_number_of, defBody s_number_of, defScope s_number_of, [], []⟩
def d_digits : He.DefD := ⟨("digits", none), "digits", "digits", defArgs s_digits, defBody s_digits, defScope s_digits, [], []⟩
def d_Field__sum : He.DefD := ⟨("Field", some "_sum"), "_sum", "Field._sum", defArgs s_Field__sum, defBody s_Field__sum, defScope s_Field__sum, [], []⟩
def d_Field__shifted : He.DefD := ⟨("Field", some "_shifted"), "_shifted", "Field._shifted", defArgs s_Field__shifted, defBody s_Field__shifted, defScope s_Field__shifted, [], []⟩
def d_Field__product : He.DefD := ⟨("Field", some "_product"), "_product", "Field._product", defArgs s_Field__product, defBody s_Field__product, defScope s_Field__product, [], []⟩
def d_Field_init : He.DefD := ⟨("Field", some "__init__"), "__init__", "Field.__init__", defArgs s_Field_init, defBody s_Field_init, defScope s_Field_init, [], []⟩
def d_is_whole : He.DefD := ⟨("is_whole", none), "is_whole", "is_whole", defArgs s_is_whole, defBody s_is_whole, defScope s_is_whole, [], []⟩
def d_is_size : He.DefD := ⟨("is_size", none), "is_size", "is_size", defArgs s_is_size, defBody s_is_size, defScope s_is_size, [], []⟩
def d_is_word : He.DefD := ⟨("is_word", none), "is_word", "is_word", defArgs s_is_word, defBody s_is_word, defScope s_is_word, [], []⟩
def d_weight : He.DefD := ⟨("weight", none), "weight", "weight", defArgs s_weight, defBody s_weight, defScope s_weight, [], []⟩
def d_distance : He.DefD := ⟨("distance", none), "distance", "distance", defArgs s_distance, defBody s_distance, defScope s_distance, [], []⟩
def d_support : He.DefD := ⟨("support", none), "support", "support", defArgs s_support, defBody s_support, defScope s_support, [], []⟩
def d__law_state : He.DefD := ⟨("_law_state", none), "_law_state", "_law_state", defArgs s__law_state, defBody s__law_state, defScope s__law_state, [], []⟩
def d__law_take : He.DefD := ⟨("_law_take", none), "_law_take", "_law_take", defArgs s__law_take, defBody s__law_take, defScope s__law_take, [], []⟩
def d__law_pick : He.DefD := ⟨("_law_pick", none), "_law_pick", "_law_pick", defArgs s__law_pick, defBody s__law_pick, defScope s__law_pick, [], []⟩
def d__law_digits : He.DefD := ⟨("_law_digits", none), "_law_digits", "_law_digits", defArgs s__law_digits, defBody s__law_digits, defScope s__law_digits, [], []⟩
def d__law_field : He.DefD := ⟨("_law_field", none), "_law_field", "_law_field", defArgs s__law_field, defBody s__law_field, defScope s__law_field, [], []⟩
def d__law_neg : He.DefD := ⟨("_law_neg", none), "_law_neg", "_law_neg", defArgs s__law_neg, defBody s__law_neg, defScope s__law_neg, [], []⟩
def d__law_dot : He.DefD := ⟨("_law_dot", none), "_law_dot", "_law_dot", defArgs s__law_dot, defBody s__law_dot, defScope s__law_dot, [], []⟩
def d__law_mix : He.DefD := ⟨("_law_mix", none), "_law_mix", "_law_mix", defArgs s__law_mix, defBody s__law_mix, defScope s__law_mix, [], []⟩
def d__law_plain : He.DefD := ⟨("_law_plain", none), "_law_plain", "_law_plain", defArgs s__law_plain, defBody s__law_plain, defScope s__law_plain, [], []⟩
def d__law_power : He.DefD := ⟨("_law_power", none), "_law_power", "_law_power", defArgs s__law_power, defBody s__law_power, defScope s__law_power, [], []⟩
def d_Field_order : He.DefD := ⟨("Field", some "order"), "order", "Field.order", defArgs s_Field_order, defBody s_Field_order, defScope s_Field_order, [], []⟩
def d_Field_generators : He.DefD := ⟨("Field", some "generators"), "generators", "Field.generators", defArgs s_Field_generators, defBody s_Field_generators, defScope s_Field_generators, [], []⟩
def d_Field_times : He.DefD := ⟨("Field", some "times"), "times", "Field.times", defArgs s_Field_times, defBody s_Field_times, defScope s_Field_times, [], []⟩
def d_Field_power : He.DefD := ⟨("Field", some "power"), "power", "Field.power", defArgs s_Field_power, defBody s_Field_power, defScope s_Field_power, [], []⟩
def d_Field_total : He.DefD := ⟨("Field", some "total"), "total", "Field.total", defArgs s_Field_total, defBody s_Field_total, defScope s_Field_total, [], []⟩
def d_Field_dot : He.DefD := ⟨("Field", some "dot"), "dot", "Field.dot", defArgs s_Field_dot, defBody s_Field_dot, defScope s_Field_dot, [], []⟩
def d_Field_negative : He.DefD := ⟨("Field", some "negative"), "negative", "Field.negative", defArgs s_Field_negative, defBody s_Field_negative, defScope s_Field_negative, [], []⟩
def d_Field_minus : He.DefD := ⟨("Field", some "minus"), "minus", "Field.minus", defArgs s_Field_minus, defBody s_Field_minus, defScope s_Field_minus, [], []⟩
def d_Field_plus : He.DefD := ⟨("Field", some "plus"), "plus", "Field.plus", defArgs s_Field_plus, defBody s_Field_plus, defScope s_Field_plus, [], []⟩
def d_Field_inverse : He.DefD := ⟨("Field", some "inverse"), "inverse", "Field.inverse", defArgs s_Field_inverse, defBody s_Field_inverse, defScope s_Field_inverse, [], []⟩
def d_Field_log : He.DefD := ⟨("Field", some "log"), "log", "Field.log", defArgs s_Field_log, defBody s_Field_log, defScope s_Field_log, [], []⟩
def d_Field_over : He.DefD := ⟨("Field", some "over"), "over", "Field.over", defArgs s_Field_over, defBody s_Field_over, defScope s_Field_over, [], []⟩
def d_law : He.DefD := ⟨("law", none), "law", "law", defArgs s_law, defBody s_law, defScope s_law, [], []⟩
def fns : List He.DefD := [d_number_of, d_digits, d_Field__sum, d_Field__shifted, d_Field__product, d_Field_init, d_is_whole, d_is_size, d_is_word, d_weight, d_distance, d_support, d__law_state, d__law_take, d__law_pick, d__law_digits, d__law_field, d__law_neg, d__law_dot, d__law_mix, d__law_plain, d__law_power, d_Field_order, d_Field_generators, d_Field_times, d_Field_power, d_Field_total, d_Field_dot, d_Field_negative, d_Field_minus, d_Field_plus, d_Field_inverse, d_Field_log, d_Field_over, d_law]
def fas : List He.Fa := [.glo "number_of", .glo "digits", .glo "is_whole", .glo "is_size", .glo "is_word", .glo "weight", .glo "distance", .glo "support", .glo "_law_state", .glo "_law_take", .glo "_law_pick", .glo "_law_digits", .glo "_law_field", .glo "_law_neg", .glo "_law_dot", .glo "_law_mix", .glo "_law_plain", .glo "_law_power", .glo "law", .free "len", .free "range", .free "sum", .free "tuple", .free "list", .free "int", .free "isinstance", .free "any", .free "all", .free "abs", .free "min", .free "max", .free "sorted", .free "set", .free "dict", .free "str", .free "bool", .free "zip", .glo "SIZES", .glo "LEADS", .glo "Field", .cls "Field", .mkr "Field", .noat "Field" "size", .noat "Field" "sums", .noat "Field" "products", .noat "Field" "base", .noat "Field" "many", .noat "Field" "lead", .meth "Field" "_sum", .meth "Field" "_shifted", .meth "Field" "_product", .meth "Field" "order", .meth "Field" "generators", .meth "Field" "times", .meth "Field" "power", .meth "Field" "total", .meth "Field" "dot", .meth "Field" "negative", .meth "Field" "minus", .meth "Field" "plus", .meth "Field" "inverse", .meth "Field" "log", .meth "Field" "over"]
def bsx : List (PySem.W.Frag → Bool) := [(fun K => tupB K "SIZES" i_SIZES), (fun K => tabB K "LEADS" c_LEADS)]
abbrev R : PySem.W.OpenRow := PySem.W.OpenLaw.row PySem.Challenge.rw_farwords_k01_whole_small_fields
abbrev hk : PySem.W.Hook := hookX 6 fas fns bsx
def ob (s : PySem.W.SharedT) : AlX := obsXG 6 fas fns bsx (HandSHeadRun.getT s)
theorem ob_eq (s : PySem.W.SharedT) : ob s = hk.obs s.abs := obsXG_eq (HandSHeadRun.getT_eq s)
theorem run (w : World) : HandSHeadRun.RunEq R (PySem.W.view R.prog [23]) hk ob 4000 ["SIZES", "LEADS", "is_whole", "is_size", "digits", "number_of", "Field", "is_word", "weight", "distance", "support", "_law_state", "_law_take", "_law_pick", "_law_digits", "_law_field", "_law_neg", "_law_dot", "_law_mix", "_law_plain", "_law_power"] w :=
  PySem.W.byRow2 "special-get-raises" (P := fun w => HandSHeadRun.RunEq R (PySem.W.view R.prog [23]) hk ob 4000 ["SIZES", "LEADS", "is_whole", "is_size", "digits", "number_of", "Field", "is_word", "weight", "distance", "support", "_law_state", "_law_take", "_law_pick", "_law_digits", "_law_field", "_law_neg", "_law_dot", "_law_mix", "_law_plain", "_law_power"] w) (fun w os => by kernel_rfl) (fun w os => by kernel_rfl) w
set_option maxHeartbeats 0 in
theorem facts {P : Program} {w : World} {K : PySem.W.Frag} {h : Heap} {mg : Str → Option Value} {f : Addr} (hp : ∀ a ms, DrawOk ms → ∃ S, b_law (.un :: .drw a 0 ms :: List.replicate 18 .un) = .rt (.bool true) S) (X : K.In h) (G : h.Ns mainGlobals mg) (hfa : mg ("law" : Str) = some (.ref f)) (cx : SaysX fas fns bsx K) :
    ∃ fd : FuncData, (∀ (s : Shared) (v : Value), BindsTo s fd ⟨[v], []⟩ [("script", v)]) ∧ ∀ base : Heap, K.In base → base.Ns mainGlobals mg → FnOk P w K mg base CX0 6 f fd ["script"] (spLaw K) := by
  have c := cx.d
  have B : Blt mg := ⟨He.free_ok X G (c.fact 19 (f := .free "len") rfl), He.free_ok X G (c.fact 20 (f := .free "range") rfl), He.free_ok X G (c.fact 21 (f := .free "sum") rfl), He.free_ok X G (c.fact 22 (f := .free "tuple") rfl), He.free_ok X G (c.fact 23 (f := .free "list") rfl), He.free_ok X G (c.fact 24 (f := .free "int") rfl), He.free_ok X G (c.fact 25 (f := .free "isinstance") rfl), He.free_ok X G (c.fact 26 (f := .free "any") rfl), He.free_ok X G (c.fact 27 (f := .free "all") rfl), He.free_ok X G (c.fact 28 (f := .free "abs") rfl), He.free_ok X G (c.fact 29 (f := .free "min") rfl), He.free_ok X G (c.fact 30 (f := .free "max") rfl), He.free_ok X G (c.fact 31 (f := .free "sorted") rfl), He.free_ok X G (c.fact 32 (f := .free "set") rfl), He.free_ok X G (c.fact 33 (f := .free "dict") rfl), He.free_ok X G (c.fact 34 (f := .free "str") rfl), He.free_ok X G (c.fact 35 (f := .free "bool") rfl), He.free_ok X G (c.fact 36 (f := .free "zip") rfl)⟩
  have g_SIZES : ∃ a, mg "SIZES" = some (.ref a) ∧ ∀ Z, Dp K Z (.ref a) (.tuple c_SIZES) := ⟨_, He.glo_ok X G (c.fact 37 (f := .glo "SIZES") rfl), tupB_ok (cx.b 0 (b := fun K => tupB K "SIZES" i_SIZES) rfl)⟩
  have u_LEADS : mg "LEADS" = some (.ref (He.ga K "LEADS")) := He.glo_ok X G (c.fact 38 (f := .glo "LEADS") rfl)
  obtain ⟨es_LEADS, t_LEADS⟩ := tabB_ok (cx.b 1 (b := fun K => tabB K "LEADS" c_LEADS) rfl)
  have c_Field : Cls K (He.ga K "Field") := He.cls_ok (c.fact 40 (f := .cls "Field") rfl)
  have k_Field : Mk K (He.ga K "Field") (He.ma K (He.ga K "Field") "__init__") := He.mkr_ok (c.fact 41 (f := .mkr "Field") rfl)
  have u_Field : mg "Field" = some (.ref (He.ga K "Field")) := He.glo_ok X G (c.fact 39 (f := .glo "Field") rfl)
  have n_Field_size : NoAttr K (He.ga K "Field") "size" := He.noat_ok (c.fact 42 (f := .noat "Field" "size") rfl)
  have n_Field_sums : NoAttr K (He.ga K "Field") "sums" := He.noat_ok (c.fact 43 (f := .noat "Field" "sums") rfl)
  have n_Field_products : NoAttr K (He.ga K "Field") "products" := He.noat_ok (c.fact 44 (f := .noat "Field" "products") rfl)
  have n_Field_base : NoAttr K (He.ga K "Field") "base" := He.noat_ok (c.fact 45 (f := .noat "Field" "base") rfl)
  have n_Field_many : NoAttr K (He.ga K "Field") "many" := He.noat_ok (c.fact 46 (f := .noat "Field" "many") rfl)
  have n_Field_lead : NoAttr K (He.ga K "Field") "lead" := He.noat_ok (c.fact 47 (f := .noat "Field" "lead") rfl)
  obtain ⟨fd_number_of, T_number_of⟩ := c.def_ 0 (d := d_number_of) rfl
  have U_number_of : Fun K "number_of" "number_of" s_number_of (He.ga K "number_of") fd_number_of := fun_of T_number_of
  have b_number_of : L2.Binds K fd_number_of ["row", "base"] [] := T_number_of.bindsN fun _ _ _ _ _ _ us hl => match us, hl with | [_, _], _ => rfl
  have h_number_of : ∀ base, Cal P w K mg base CX0 "number_of" ["row", "base"] 1 (spD0 K 2 (f_number_of)) := fun base => Cal.mk' U_number_of (ok_number_of B U_number_of ) (He.glo_ok X G (c.fact 0 (f := .glo "number_of") rfl)) b_number_of
  obtain ⟨fd_digits, T_digits⟩ := c.def_ 1 (d := d_digits) rfl
  have U_digits : Fun K "digits" "digits" s_digits (He.ga K "digits") fd_digits := fun_of T_digits
  have b_digits : L2.Binds K fd_digits ["number", "base", "many"] [] := T_digits.bindsN fun _ _ _ _ _ _ us hl => match us, hl with | [_, _, _], _ => rfl
  have h_digits : ∀ base, Cal P w K mg base CX0 "digits" ["number", "base", "many"] 1 (spD0 K 3 (f_digits)) := fun base => Cal.mk' U_digits (ok_digits B U_digits ) (He.glo_ok X G (c.fact 1 (f := .glo "digits") rfl)) b_digits
  obtain ⟨fd_Field__sum, T_Field__sum⟩ := c.def_ 2 (d := d_Field__sum) rfl
  have U_Field__sum : Fun K "_sum" "Field._sum" s_Field__sum (He.ma K (He.ga K "Field") "_sum") fd_Field__sum := fun_of T_Field__sum
  have b_Field__sum : L2.Binds K fd_Field__sum ["self", "one", "other"] [] := T_Field__sum.bindsN fun _ _ _ _ _ _ us hl => match us, hl with | [_, _, _], _ => rfl
  have h_Field__sum : ∀ base, CalM P w K mg base "Field" "_sum" ["self", "one", "other"] 2 (spD0 K 3 f_Field__sum) := fun base => ⟨_, fd_Field__sum, ok_Field__sum B U_Field__sum (h_number_of base) c_Field n_Field_base n_Field_many (h_digits base), c_Field, He.meth_ok (c.fact 48 (f := .meth "Field" "_sum") rfl), b_Field__sum⟩
  obtain ⟨fd_Field__shifted, T_Field__shifted⟩ := c.def_ 3 (d := d_Field__shifted) rfl
  have U_Field__shifted : Fun K "_shifted" "Field._shifted" s_Field__shifted (He.ma K (He.ga K "Field") "_shifted") fd_Field__shifted := fun_of T_Field__shifted
  have b_Field__shifted : L2.Binds K fd_Field__shifted ["self", "row"] [] := T_Field__shifted.bindsN fun _ _ _ _ _ _ us hl => match us, hl with | [_, _], _ => rfl
  have h_Field__shifted : ∀ base, CalM P w K mg base "Field" "_shifted" ["self", "row"] 2 (spD0 K 2 f_Field__shifted) := fun base => ⟨_, fd_Field__shifted, ok_Field__shifted B U_Field__shifted c_Field n_Field_many n_Field_base (h_digits base) n_Field_lead, c_Field, He.meth_ok (c.fact 49 (f := .meth "Field" "_shifted") rfl), b_Field__shifted⟩
  obtain ⟨fd_Field__product, T_Field__product⟩ := c.def_ 4 (d := d_Field__product) rfl
  have U_Field__product : Fun K "_product" "Field._product" s_Field__product (He.ma K (He.ga K "Field") "_product") fd_Field__product := fun_of T_Field__product
  have b_Field__product : L2.Binds K fd_Field__product ["self", "one", "other"] [] := T_Field__product.bindsN fun _ _ _ _ _ _ us hl => match us, hl with | [_, _, _], _ => rfl
  have h_Field__product : ∀ base, CalM P w K mg base "Field" "_product" ["self", "one", "other"] 3 (spD0 K 3 f_Field__product) := fun base => ⟨_, fd_Field__product, ok_Field__product B U_Field__product (h_number_of base) c_Field n_Field_base (h_digits base) n_Field_many (h_Field__shifted base), c_Field, He.meth_ok (c.fact 50 (f := .meth "Field" "_product") rfl), b_Field__product⟩
  obtain ⟨fd_Field_init, T_Field_init⟩ := c.def_ 5 (d := d_Field_init) rfl
  have U_Field_init : Fun K "__init__" "Field.__init__" s_Field_init (He.ma K (He.ga K "Field") "__init__") fd_Field_init := fun_of T_Field_init
  have b_Field_init : L2.Binds K fd_Field_init ["self", "size"] [] := T_Field_init.bindsN fun _ _ _ _ _ _ us hl => match us, hl with | [_, _], _ => rfl
  have h_Field : ∀ base, CalI P w K mg base "Field" ["self", "size"] 4 (spI K "Field" 2 f_Field_init) := fun base => ⟨_, fd_Field_init, ok_Field_init B U_Field_init (h_Field__product base) c_Field n_Field_products (h_Field__sum base) n_Field_sums t_LEADS u_LEADS n_Field_lead n_Field_many n_Field_base n_Field_size, k_Field, u_Field, b_Field_init⟩
  obtain ⟨fd_is_whole, T_is_whole⟩ := c.def_ 6 (d := d_is_whole) rfl
  have U_is_whole : Fun K "is_whole" "is_whole" s_is_whole (He.ga K "is_whole") fd_is_whole := fun_of T_is_whole
  have b_is_whole : L2.Binds K fd_is_whole ["value", "low", "high"] [] := T_is_whole.bindsN fun _ _ _ _ _ _ us hl => match us, hl with | [_, _, _], _ => rfl
  have h_is_whole : ∀ base, Cal P w K mg base CX0 "is_whole" ["value", "low", "high"] 1 (spD0 K 3 (f_is_whole)) := fun base => Cal.mk' U_is_whole (ok_is_whole B U_is_whole ) (He.glo_ok X G (c.fact 2 (f := .glo "is_whole") rfl)) b_is_whole
  obtain ⟨fd_is_size, T_is_size⟩ := c.def_ 7 (d := d_is_size) rfl
  have U_is_size : Fun K "is_size" "is_size" s_is_size (He.ga K "is_size") fd_is_size := fun_of T_is_size
  have b_is_size : L2.Binds K fd_is_size ["value"] [] := T_is_size.bindsN fun _ _ _ _ _ _ us hl => match us, hl with | [_], _ => rfl
  have h_is_size : ∀ base, Cal P w K mg base CX0 "is_size" ["value"] 1 (spD0 K 1 (f_is_size)) := fun base => Cal.mk' U_is_size (ok_is_size B U_is_size g_SIZES) (He.glo_ok X G (c.fact 3 (f := .glo "is_size") rfl)) b_is_size
  obtain ⟨fd_is_word, T_is_word⟩ := c.def_ 8 (d := d_is_word) rfl
  have U_is_word : Fun K "is_word" "is_word" s_is_word (He.ga K "is_word") fd_is_word := fun_of T_is_word
  have b_is_word : L2.Binds K fd_is_word ["value", "size", "long"] [] := T_is_word.bindsN fun _ _ _ _ _ _ us hl => match us, hl with | [_, _, _], _ => rfl
  have h_is_word : ∀ base, Cal P w K mg base CX0 "is_word" ["value", "size", "long"] 2 (spD0 K 3 (f_is_word)) := fun base => Cal.mk' U_is_word (ok_is_word B U_is_word (h_is_whole base)) (He.glo_ok X G (c.fact 4 (f := .glo "is_word") rfl)) b_is_word
  obtain ⟨fd_weight, T_weight⟩ := c.def_ 9 (d := d_weight) rfl
  have U_weight : Fun K "weight" "weight" s_weight (He.ga K "weight") fd_weight := fun_of T_weight
  have b_weight : L2.Binds K fd_weight ["word"] [] := T_weight.bindsN fun _ _ _ _ _ _ us hl => match us, hl with | [_], _ => rfl
  have h_weight : ∀ base, Cal P w K mg base CX0 "weight" ["word"] 1 (spD0 K 1 (f_weight)) := fun base => Cal.mk' U_weight (ok_weight B U_weight ) (He.glo_ok X G (c.fact 5 (f := .glo "weight") rfl)) b_weight
  obtain ⟨fd_distance, T_distance⟩ := c.def_ 10 (d := d_distance) rfl
  have U_distance : Fun K "distance" "distance" s_distance (He.ga K "distance") fd_distance := fun_of T_distance
  have b_distance : L2.Binds K fd_distance ["one", "other"] [] := T_distance.bindsN fun _ _ _ _ _ _ us hl => match us, hl with | [_, _], _ => rfl
  have h_distance : ∀ base, Cal P w K mg base CX0 "distance" ["one", "other"] 1 (spD0 K 2 (f_distance)) := fun base => Cal.mk' U_distance (ok_distance B U_distance ) (He.glo_ok X G (c.fact 6 (f := .glo "distance") rfl)) b_distance
  obtain ⟨fd_support, T_support⟩ := c.def_ 11 (d := d_support) rfl
  have U_support : Fun K "support" "support" s_support (He.ga K "support") fd_support := fun_of T_support
  have b_support : L2.Binds K fd_support ["word"] [] := T_support.bindsN fun _ _ _ _ _ _ us hl => match us, hl with | [_], _ => rfl
  have h_support : ∀ base, Cal P w K mg base CX0 "support" ["word"] 1 (spD0 K 1 (f_support)) := fun base => Cal.mk' U_support (ok_support B U_support ) (He.glo_ok X G (c.fact 7 (f := .glo "support") rfl)) b_support
  obtain ⟨fd__law_state, T__law_state⟩ := c.def_ 12 (d := d__law_state) rfl
  have U__law_state : Fun K "_law_state" "_law_state" s__law_state (He.ga K "_law_state") fd__law_state := fun_of T__law_state
  have b__law_state : L2.Binds K fd__law_state ["script"] [] := T__law_state.bindsN fun _ _ _ _ _ _ us hl => match us, hl with | [_], _ => rfl
  have h__law_state : ∀ base, Cal P w K mg base CX0 "_law_state" ["script"] 1 (spSt K) := fun base => Cal.mk' U__law_state (ok__law_state B U__law_state ) (He.glo_ok X G (c.fact 8 (f := .glo "_law_state") rfl)) b__law_state
  obtain ⟨fd__law_take, T__law_take⟩ := c.def_ 13 (d := d__law_take) rfl
  have U__law_take : Fun K "_law_take" "_law_take" s__law_take (He.ga K "_law_take") fd__law_take := fun_of T__law_take
  have b__law_take : L2.Binds K fd__law_take ["state", "most"] [] := T__law_take.bindsN fun _ _ _ _ _ _ us hl => match us, hl with | [_, _], _ => rfl
  have h__law_take : ∀ base, Cal P w K mg base CX0 "_law_take" ["state", "most"] 1 (spW K 2 f__law_take) := fun base => Cal.mk' U__law_take (ok__law_take B U__law_take ) (He.glo_ok X G (c.fact 9 (f := .glo "_law_take") rfl)) b__law_take
  obtain ⟨fd__law_pick, T__law_pick⟩ := c.def_ 14 (d := d__law_pick) rfl
  have U__law_pick : Fun K "_law_pick" "_law_pick" s__law_pick (He.ga K "_law_pick") fd__law_pick := fun_of T__law_pick
  have b__law_pick : L2.Binds K fd__law_pick ["state", "row"] [] := T__law_pick.bindsN fun _ _ _ _ _ _ us hl => match us, hl with | [_, _], _ => rfl
  have h__law_pick : ∀ base, Cal P w K mg base CX0 "_law_pick" ["state", "row"] 2 (spW K 2 f__law_pick) := fun base => Cal.mk' U__law_pick (ok__law_pick B U__law_pick (h__law_take base)) (He.glo_ok X G (c.fact 10 (f := .glo "_law_pick") rfl)) b__law_pick
  obtain ⟨fd__law_digits, T__law_digits⟩ := c.def_ 15 (d := d__law_digits) rfl
  have U__law_digits : Fun K "_law_digits" "_law_digits" s__law_digits (He.ga K "_law_digits") fd__law_digits := fun_of T__law_digits
  have b__law_digits : L2.Binds K fd__law_digits ["number", "base", "many"] [] := T__law_digits.bindsN fun _ _ _ _ _ _ us hl => match us, hl with | [_, _, _], _ => rfl
  have h__law_digits : ∀ base, Cal P w K mg base CX0 "_law_digits" ["number", "base", "many"] 1 (spD0 K 3 (f__law_digits)) := fun base => Cal.mk' U__law_digits (ok__law_digits B U__law_digits ) (He.glo_ok X G (c.fact 11 (f := .glo "_law_digits") rfl)) b__law_digits
  obtain ⟨fd__law_field, T__law_field⟩ := c.def_ 16 (d := d__law_field) rfl
  have U__law_field : Fun K "_law_field" "_law_field" s__law_field (He.ga K "_law_field") fd__law_field := fun_of T__law_field
  have b__law_field : L2.Binds K fd__law_field ["size"] [] := T__law_field.bindsN fun _ _ _ _ _ _ us hl => match us, hl with | [_], _ => rfl
  have h__law_field : ∀ base, Cal P w K mg base CX0 "_law_field" ["size"] 2 (spD0 K 1 (f__law_field)) := fun base => Cal.mk' U__law_field (ok__law_field B U__law_field (h__law_digits base)) (He.glo_ok X G (c.fact 12 (f := .glo "_law_field") rfl)) b__law_field
  obtain ⟨fd__law_neg, T__law_neg⟩ := c.def_ 17 (d := d__law_neg) rfl
  have U__law_neg : Fun K "_law_neg" "_law_neg" s__law_neg (He.ga K "_law_neg") fd__law_neg := fun_of T__law_neg
  have b__law_neg : L2.Binds K fd__law_neg ["field", "one"] [] := T__law_neg.bindsN fun _ _ _ _ _ _ us hl => match us, hl with | [_, _], _ => rfl
  have h__law_neg : ∀ base, Cal P w K mg base CX0 "_law_neg" ["field", "one"] 1 (spD0 K 2 (f__law_neg)) := fun base => Cal.mk' U__law_neg (ok__law_neg B U__law_neg ) (He.glo_ok X G (c.fact 13 (f := .glo "_law_neg") rfl)) b__law_neg
  obtain ⟨fd__law_dot, T__law_dot⟩ := c.def_ 18 (d := d__law_dot) rfl
  have U__law_dot : Fun K "_law_dot" "_law_dot" s__law_dot (He.ga K "_law_dot") fd__law_dot := fun_of T__law_dot
  have b__law_dot : L2.Binds K fd__law_dot ["field", "one", "other"] [] := T__law_dot.bindsN fun _ _ _ _ _ _ us hl => match us, hl with | [_, _, _], _ => rfl
  have h__law_dot : ∀ base, Cal P w K mg base CX0 "_law_dot" ["field", "one", "other"] 1 (spD0 K 3 (f__law_dot)) := fun base => Cal.mk' U__law_dot (ok__law_dot B U__law_dot ) (He.glo_ok X G (c.fact 14 (f := .glo "_law_dot") rfl)) b__law_dot
  obtain ⟨fd__law_mix, T__law_mix⟩ := c.def_ 19 (d := d__law_mix) rfl
  have U__law_mix : Fun K "_law_mix" "_law_mix" s__law_mix (He.ga K "_law_mix") fd__law_mix := fun_of T__law_mix
  have b__law_mix : L2.Binds K fd__law_mix ["field", "rows", "factors", "wide"] [] := T__law_mix.bindsN fun _ _ _ _ _ _ us hl => match us, hl with | [_, _, _, _], _ => rfl
  have h__law_mix : ∀ base, Cal P w K mg base CX0 "_law_mix" ["field", "rows", "factors", "wide"] 1 (spD0 K 4 (f__law_mix)) := fun base => Cal.mk' U__law_mix (ok__law_mix B U__law_mix ) (He.glo_ok X G (c.fact 15 (f := .glo "_law_mix") rfl)) b__law_mix
  obtain ⟨fd__law_plain, T__law_plain⟩ := c.def_ 20 (d := d__law_plain) rfl
  have U__law_plain : Fun K "_law_plain" "_law_plain" s__law_plain (He.ga K "_law_plain") fd__law_plain := fun_of T__law_plain
  have b__law_plain : L2.Binds K fd__law_plain ["field", "rows"] [] := T__law_plain.bindsN fun _ _ _ _ _ _ us hl => match us, hl with | [_, _], _ => rfl
  have h__law_plain : ∀ base, Cal P w K mg base CX0 "_law_plain" ["field", "rows"] 2 (spD0 K 2 (f__law_plain)) := fun base => Cal.mk' U__law_plain (ok__law_plain B U__law_plain (h__law_neg base)) (He.glo_ok X G (c.fact 16 (f := .glo "_law_plain") rfl)) b__law_plain
  obtain ⟨fd__law_power, T__law_power⟩ := c.def_ 21 (d := d__law_power) rfl
  have U__law_power : Fun K "_law_power" "_law_power" s__law_power (He.ga K "_law_power") fd__law_power := fun_of T__law_power
  have b__law_power : L2.Binds K fd__law_power ["field", "one", "number"] [] := T__law_power.bindsN fun _ _ _ _ _ _ us hl => match us, hl with | [_, _, _], _ => rfl
  have h__law_power : ∀ base, Cal P w K mg base CX0 "_law_power" ["field", "one", "number"] 1 (spD0 K 3 (f__law_power)) := fun base => Cal.mk' U__law_power (ok__law_power B U__law_power ) (He.glo_ok X G (c.fact 17 (f := .glo "_law_power") rfl)) b__law_power
  obtain ⟨fd_Field_order, T_Field_order⟩ := c.def_ 22 (d := d_Field_order) rfl
  have U_Field_order : Fun K "order" "Field.order" s_Field_order (He.ma K (He.ga K "Field") "order") fd_Field_order := fun_of T_Field_order
  have b_Field_order : L2.Binds K fd_Field_order ["self", "one"] [] := T_Field_order.bindsN fun _ _ _ _ _ _ us hl => match us, hl with | [_, _], _ => rfl
  have h_Field_order : ∀ base, CalM P w K mg base "Field" "order" ["self", "one"] 1 (spD0 K 2 f_Field_order) := fun base => ⟨_, fd_Field_order, ok_Field_order B U_Field_order c_Field n_Field_products, c_Field, He.meth_ok (c.fact 51 (f := .meth "Field" "order") rfl), b_Field_order⟩
  obtain ⟨fd_Field_generators, T_Field_generators⟩ := c.def_ 23 (d := d_Field_generators) rfl
  have U_Field_generators : Fun K "generators" "Field.generators" s_Field_generators (He.ma K (He.ga K "Field") "generators") fd_Field_generators := fun_of T_Field_generators
  have b_Field_generators : L2.Binds K fd_Field_generators ["self"] [] := T_Field_generators.bindsN fun _ _ _ _ _ _ us hl => match us, hl with | [_], _ => rfl
  have h_Field_generators : ∀ base, CalM P w K mg base "Field" "generators" ["self"] 2 (spD0 K 1 f_Field_generators) := fun base => ⟨_, fd_Field_generators, ok_Field_generators B U_Field_generators c_Field n_Field_size (h_Field_order base), c_Field, He.meth_ok (c.fact 52 (f := .meth "Field" "generators") rfl), b_Field_generators⟩
  obtain ⟨fd_Field_times, T_Field_times⟩ := c.def_ 24 (d := d_Field_times) rfl
  have U_Field_times : Fun K "times" "Field.times" s_Field_times (He.ma K (He.ga K "Field") "times") fd_Field_times := fun_of T_Field_times
  have b_Field_times : L2.Binds K fd_Field_times ["self", "one", "other"] [] := T_Field_times.bindsN fun _ _ _ _ _ _ us hl => match us, hl with | [_, _, _], _ => rfl
  have h_Field_times : ∀ base, CalM P w K mg base "Field" "times" ["self", "one", "other"] 1 (spD0 K 3 f_Field_times) := fun base => ⟨_, fd_Field_times, ok_Field_times B U_Field_times c_Field n_Field_products, c_Field, He.meth_ok (c.fact 53 (f := .meth "Field" "times") rfl), b_Field_times⟩
  obtain ⟨fd_Field_power, T_Field_power⟩ := c.def_ 25 (d := d_Field_power) rfl
  have U_Field_power : Fun K "power" "Field.power" s_Field_power (He.ma K (He.ga K "Field") "power") fd_Field_power := fun_of T_Field_power
  have b_Field_power : L2.Binds K fd_Field_power ["self", "one", "number"] [] := T_Field_power.bindsN fun _ _ _ _ _ _ us hl => match us, hl with | [_, _, _], _ => rfl
  have h_Field_power : ∀ base, CalM P w K mg base "Field" "power" ["self", "one", "number"] 2 (spD0 K 3 f_Field_power) := fun base => ⟨_, fd_Field_power, ok_Field_power B U_Field_power (h_digits base) c_Field n_Field_products, c_Field, He.meth_ok (c.fact 54 (f := .meth "Field" "power") rfl), b_Field_power⟩
  obtain ⟨fd_Field_total, T_Field_total⟩ := c.def_ 26 (d := d_Field_total) rfl
  have U_Field_total : Fun K "total" "Field.total" s_Field_total (He.ma K (He.ga K "Field") "total") fd_Field_total := fun_of T_Field_total
  have b_Field_total : L2.Binds K fd_Field_total ["self", "row"] [] := T_Field_total.bindsN fun _ _ _ _ _ _ us hl => match us, hl with | [_, _], _ => rfl
  have h_Field_total : ∀ base, CalM P w K mg base "Field" "total" ["self", "row"] 1 (spD0 K 2 f_Field_total) := fun base => ⟨_, fd_Field_total, ok_Field_total B U_Field_total c_Field n_Field_sums, c_Field, He.meth_ok (c.fact 55 (f := .meth "Field" "total") rfl), b_Field_total⟩
  obtain ⟨fd_Field_dot, T_Field_dot⟩ := c.def_ 27 (d := d_Field_dot) rfl
  have U_Field_dot : Fun K "dot" "Field.dot" s_Field_dot (He.ma K (He.ga K "Field") "dot") fd_Field_dot := fun_of T_Field_dot
  have b_Field_dot : L2.Binds K fd_Field_dot ["self", "one", "other"] [] := T_Field_dot.bindsN fun _ _ _ _ _ _ us hl => match us, hl with | [_, _, _], _ => rfl
  have h_Field_dot : ∀ base, CalM P w K mg base "Field" "dot" ["self", "one", "other"] 2 (spD0 K 3 f_Field_dot) := fun base => ⟨_, fd_Field_dot, ok_Field_dot B U_Field_dot (h_Field_total base) c_Field n_Field_products, c_Field, He.meth_ok (c.fact 56 (f := .meth "Field" "dot") rfl), b_Field_dot⟩
  obtain ⟨fd_Field_negative, T_Field_negative⟩ := c.def_ 28 (d := d_Field_negative) rfl
  have U_Field_negative : Fun K "negative" "Field.negative" s_Field_negative (He.ma K (He.ga K "Field") "negative") fd_Field_negative := fun_of T_Field_negative
  have b_Field_negative : L2.Binds K fd_Field_negative ["self", "one"] [] := T_Field_negative.bindsN fun _ _ _ _ _ _ us hl => match us, hl with | [_, _], _ => rfl
  have h_Field_negative : ∀ base, CalM P w K mg base "Field" "negative" ["self", "one"] 1 (spD0 K 2 f_Field_negative) := fun base => ⟨_, fd_Field_negative, ok_Field_negative B U_Field_negative c_Field n_Field_sums, c_Field, He.meth_ok (c.fact 57 (f := .meth "Field" "negative") rfl), b_Field_negative⟩
  obtain ⟨fd_Field_minus, T_Field_minus⟩ := c.def_ 29 (d := d_Field_minus) rfl
  have U_Field_minus : Fun K "minus" "Field.minus" s_Field_minus (He.ma K (He.ga K "Field") "minus") fd_Field_minus := fun_of T_Field_minus
  have b_Field_minus : L2.Binds K fd_Field_minus ["self", "one", "other"] [] := T_Field_minus.bindsN fun _ _ _ _ _ _ us hl => match us, hl with | [_, _, _], _ => rfl
  have h_Field_minus : ∀ base, CalM P w K mg base "Field" "minus" ["self", "one", "other"] 2 (spD0 K 3 f_Field_minus) := fun base => ⟨_, fd_Field_minus, ok_Field_minus B U_Field_minus (h_Field_negative base) c_Field n_Field_sums, c_Field, He.meth_ok (c.fact 58 (f := .meth "Field" "minus") rfl), b_Field_minus⟩
  obtain ⟨fd_Field_plus, T_Field_plus⟩ := c.def_ 30 (d := d_Field_plus) rfl
  have U_Field_plus : Fun K "plus" "Field.plus" s_Field_plus (He.ma K (He.ga K "Field") "plus") fd_Field_plus := fun_of T_Field_plus
  have b_Field_plus : L2.Binds K fd_Field_plus ["self", "one", "other"] [] := T_Field_plus.bindsN fun _ _ _ _ _ _ us hl => match us, hl with | [_, _, _], _ => rfl
  have h_Field_plus : ∀ base, CalM P w K mg base "Field" "plus" ["self", "one", "other"] 1 (spD0 K 3 f_Field_plus) := fun base => ⟨_, fd_Field_plus, ok_Field_plus B U_Field_plus c_Field n_Field_sums, c_Field, He.meth_ok (c.fact 59 (f := .meth "Field" "plus") rfl), b_Field_plus⟩
  obtain ⟨fd_Field_inverse, T_Field_inverse⟩ := c.def_ 31 (d := d_Field_inverse) rfl
  have U_Field_inverse : Fun K "inverse" "Field.inverse" s_Field_inverse (He.ma K (He.ga K "Field") "inverse") fd_Field_inverse := fun_of T_Field_inverse
  have b_Field_inverse : L2.Binds K fd_Field_inverse ["self", "one"] [] := T_Field_inverse.bindsN fun _ _ _ _ _ _ us hl => match us, hl with | [_, _], _ => rfl
  have h_Field_inverse : ∀ base, CalM P w K mg base "Field" "inverse" ["self", "one"] 1 (spD0 K 2 f_Field_inverse) := fun base => ⟨_, fd_Field_inverse, ok_Field_inverse B U_Field_inverse c_Field n_Field_products, c_Field, He.meth_ok (c.fact 60 (f := .meth "Field" "inverse") rfl), b_Field_inverse⟩
  obtain ⟨fd_Field_log, T_Field_log⟩ := c.def_ 32 (d := d_Field_log) rfl
  have U_Field_log : Fun K "log" "Field.log" s_Field_log (He.ma K (He.ga K "Field") "log") fd_Field_log := fun_of T_Field_log
  have b_Field_log : L2.Binds K fd_Field_log ["self", "base", "one"] [] := T_Field_log.bindsN fun _ _ _ _ _ _ us hl => match us, hl with | [_, _, _], _ => rfl
  have h_Field_log : ∀ base, CalM P w K mg base "Field" "log" ["self", "base", "one"] 1 (spD0 K 3 f_Field_log) := fun base => ⟨_, fd_Field_log, ok_Field_log B U_Field_log c_Field n_Field_products, c_Field, He.meth_ok (c.fact 61 (f := .meth "Field" "log") rfl), b_Field_log⟩
  obtain ⟨fd_Field_over, T_Field_over⟩ := c.def_ 33 (d := d_Field_over) rfl
  have U_Field_over : Fun K "over" "Field.over" s_Field_over (He.ma K (He.ga K "Field") "over") fd_Field_over := fun_of T_Field_over
  have b_Field_over : L2.Binds K fd_Field_over ["self", "one", "other"] [] := T_Field_over.bindsN fun _ _ _ _ _ _ us hl => match us, hl with | [_, _, _], _ => rfl
  have h_Field_over : ∀ base, CalM P w K mg base "Field" "over" ["self", "one", "other"] 2 (spD0 K 3 f_Field_over) := fun base => ⟨_, fd_Field_over, ok_Field_over B U_Field_over (h_Field_inverse base) c_Field n_Field_products, c_Field, He.meth_ok (c.fact 62 (f := .meth "Field" "over") rfl), b_Field_over⟩
  obtain ⟨fd_law, T_law⟩ := c.def_ 34 (d := d_law) rfl
  have e := hfa.symm.trans (He.glo_ok X G (c.fact 18 (f := .glo "law") rfl))
  cases e
  have bl := FunD.bindsA (ps := ["script"]) T_law fun _ _ _ _ _ _ us hl => match us, hl with | [_], _ => rfl
  have U_law : Fun K "law" "law" s_law (He.ga K "law") fd_law := fun_of T_law
  exact ⟨fd_law, fun s v => bl s [v] rfl, fun base _ _ => ok_law B U_law (h__law_state base) (h_is_whole base) (h_is_size base) (h_is_word base) (h_support base) (h_distance base) (h_weight base) (h_Field_dot base) (h__law_dot base) (h_Field_total base) (h__law_pick base) (h__law_take base) (h_Field_log base) (h_Field_power base) (h_Field_generators base) (h_Field_order base) (h__law_power base) (h_Field_times base) (h_Field_over base) (h_Field_inverse base) (h_Field_minus base) (h_Field_negative base) (h_Field_plus base) c_Field n_Field_size (h_Field base) (h__law_field base) g_SIZES hp⟩
end FW

open PySem PySem.W PySem.Calls PyProof.Rows
set_option maxHeartbeats 0 in
theorem PySem.Challenge.cw_farwords_k01_whole_small_fields_holds : PySem.Challenge.rw_farwords_k01_whole_small_fields.Holds := by
  w_on; o_law
  refine HandSHeadRun.head_any (r := OpenLaw.row PySem.Challenge.rw_farwords_k01_whole_small_fields) (q := view (OpenLaw.row PySem.Challenge.rw_farwords_k01_whole_small_fields).prog [23]) (H := FW.hk) (ob := FW.ob) (M := 4000) (loose := ["SIZES", "LEADS", "is_whole", "is_size", "digits", "number_of", "Field", "is_word", "weight", "distance", "support", "_law_state", "_law_take", "_law_pick", "_law_digits", "_law_field", "_law_neg", "_law_dot", "_law_mix", "_law_plain", "_law_power"]) (d := HandSHeadRun.topDef (OpenLaw.row PySem.Challenge.rw_farwords_k01_whole_small_fields).prog 23) (kwd := []) FW.ob_eq
    (by kernel_rfl) (fun s => by kernel_rfl) FW.run (by kernel_rfl) (by kernel_rfl) (by kernel_rfl) (by rfl) (by first | assumption | decide +kernel) (by decide +kernel) ⟨rfl, rfl, rfl, rfl, rfl, by decide +kernel⟩ ?hw ?hc
  case hw => w_witness2
  case hc =>
    refine L2.walk_ofE (l := PySem.Challenge.rw_farwords_k01_whole_small_fields) (n := 63) (k := 6) (x := "script") (CX := L2.CX0) rfl (by decide) (by kernel_rfl) ⟨rfl, by decide, by decide⟩ ?F (fun _ _ _ _ z => z)
    intro w mg fa h Y G hmg0
    obtain ⟨K, KX, c⟩ := Y
    have hmg : mg ("law" : PySem.Str) = some (.ref fa) := by
      have e : (HandSHeadRun.topDef (OpenLaw.row PySem.Challenge.rw_farwords_k01_whole_small_fields).prog 23).name = ("law" : PySem.Str) := by kernel_rfl
      rw [← e]
      exact hmg0
    obtain ⟨fd, hb, hF⟩ := FW.facts (P := (PySem.Challenge.rw_farwords_k01_whole_small_fields).prog) (w := w) FW.law_true KX G hmg c
    exact ⟨K, fd, FW.spLaw K, KX, hb, fun H a ns hl _ hS => ⟨a, ns, rfl, hS, hl, fun _ => rfl⟩, hF⟩

