import PyProof.Rows.All
import HandS.ForMost
import HandS.Deep
import HandS.TupMul
import HandS.TupAny
import HandS.TupLe
import HandS.Conv
import HandS.Style
import HandS.IsInst
import HandS.Wide
import HandS.More
import HandS.WideBits
import HandS.NoneIn
import HandS.Exc
import HandS.ExcOwn
import HandS.WordsExc
import KE.DataEq
import HandS.TupLen
import HandS.Small
import HandS.SortInts
import HandS.HeadHook1
import HandS.Head0
import HandS.Head1
import HandS.Head2
import HandS.HeadEnd
import HandS.HeadHook2
import KE.SortData
import HandS.Zip
import KE.GoesZip
import KE.GoesMore
import KE.GoesEnum
import KE.DatumOrd
import KE.KSuper
import KE.KExcSuper
import HandS.ExcInit
import HandS.ExcField
import HandS.DictComp
import PySem.Challenge.RW_farwords_k12_whole_bounds_and_what_keeps
set_option Elab.async false
set_option linter.all false
set_option maxRecDepth 100000
/-! FwA: a layer of values as plain data over the hand layer: slots, configurations, expressions and statements as plain functions. -/
namespace FW
open PySem PySem.Spec L2
open PyProof.Rows hiding St
abbrev D := PyData

/-! ### data in the abstract heap -/
/-- a key as data -/
def kD : Key → D
  | .inl i => .int i
  | .inr x => .str x
/-- keys that are tuples -/
def kTD (ks : List Key) : D := .tuple (ks.map kD)
/-- what tells a dict of tuple keys from one of ints and texts -/
def tagT : D × D := (.list [.none], .none)
/-- .. an instance -/
def tagI : D := .list []
def obD (cls : Str) (ns : List Str) (ds : List D) : D := .dict ((tagI, .str cls) :: (ns.map PyData.str).zip ds)
def dictD (t : Bool) (es : List (D × D)) : D := .dict (if t then tagT :: es else es)
mutual
inductive Rp (K : PySem.W.Frag) (Z : Hp) : V → D → Prop
  | non : Rp K Z .non .none
  | bl (b : Bool) : Rp K Z (.bl b) (.bool b)
  | int (i : Int) : Rp K Z (.int i) (.int i)
  | str (x : Str) : Rp K Z (.str x) (.str x)
  | lst {a : Addr} {xs : List V} {ds : List D} : Z a = some (.lst xs) → RpA K Z xs ds → Rp K Z (.ref a) (.list ds)
  | tup {a : Addr} {xs : List V} {ds : List D} : Z a = some (.tup xs) → RpA K Z xs ds → Rp K Z (.ref a) (.tuple ds)
  | dk {a : Addr} {o : Obj} {ks : List Key} {vs : List V} {es : List D} : Z a = some (.frz o (.dK (ks.zip vs))) → ks.length = es.length → RpA K Z vs es → Rp K Z (.ref a) (.dict ((ks.map kD).zip es))
  | dt {a : Addr} {o : Obj} {ks : List (List Key)} {vs : List V} {es : List D} : Z a = some (.frz o (.dT (ks.zip vs))) → ks.length = es.length → RpA K Z vs es → Rp K Z (.ref a) (.dict (tagT :: (ks.map kTD).zip es))
  | ob {a dx : Addr} {cls : Str} {ns : List Str} {vs : List V} {ds : List D} : Z a = some (.ins (He.ga K cls) dx (ns.zip vs)) → Z dx = some (.own a) → ns.length = ds.length → RpA K Z vs ds → Rp K Z (.ref a) (obD cls ns ds)
inductive RpA (K : PySem.W.Frag) (Z : Hp) : List V → List D → Prop
  | nil : RpA K Z [] []
  | cons {v : V} {vs : List V} {d : D} {ds : List D} : Rp K Z v d → RpA K Z vs ds → RpA K Z (v :: vs) (d :: ds)
end
theorem sameT {K : PySem.W.Frag} {Z Z' : Hp} {a : Addr} {xs : List V} (e : Same Z Z') (h : SqT K Z a xs) : SqT K Z' a xs := by
  rcases h with (h | ⟨o, h⟩) | h
  · exact .inl (.inl (e _ _ h))
  · exact .inl (.inr ⟨o, e _ _ h⟩)
  · exact .inr h
mutual
theorem Rp.mono {K : PySem.W.Frag} {Z Z' : Hp} {v : V} {d : D} (h : Rp K Z v d) (e : Same Z Z') : Rp K Z' v d := match h with
  | .non => .non
  | .bl _ => .bl _
  | .int _ => .int _
  | .str _ => .str _
  | .lst h1 h2 => .lst (e _ _ h1) (RpA.mono h2 e)
  | .tup h1 h2 => .tup (e _ _ h1) (RpA.mono h2 e)
  | .dk h1 h2 h3 => .dk (e _ _ h1) h2 (RpA.mono h3 e)
  | .dt h1 h2 h3 => .dt (e _ _ h1) h2 (RpA.mono h3 e)
  | .ob h1 h2 h3 h4 => .ob (e _ _ h1) (e _ _ h2) h3 (RpA.mono h4 e)
theorem RpA.mono {K : PySem.W.Frag} {Z Z' : Hp} {vs : List V} {ds : List D} (h : RpA K Z vs ds) (e : Same Z Z') : RpA K Z' vs ds := match h with
  | .nil => .nil
  | .cons h1 h2 => .cons (Rp.mono h1 e) (RpA.mono h2 e)
end
mutual
/-- no dict is in it -/
def noDict : D → Bool
  | .list ds => noDictA ds
  | .tuple ds => noDictA ds
  | .dict _ => false
  | _ => true
def noDictA : List D → Bool
  | [] => true
  | d :: ds => noDict d && noDictA ds
end
mutual
theorem Rp.dp {K : PySem.W.Frag} {Z : Hp} {v : V} {d : D} (h : Rp K Z v d) (n : noDict d = true) : Dp K Z v d := match h with
  | .non => .non
  | .bl _ => .bl _
  | .int _ => .int _
  | .str _ => .str _
  | .lst h1 h2 => .lst (SqL.of h1) (RpA.dp h2 n)
  | .tup h1 h2 => .tup (SqT.of h1) (RpA.dp h2 n)
  | .dk _ _ _ => by simp [noDict] at n
  | .dt _ _ _ => by simp [noDict] at n
  | .ob _ _ _ _ => by simp [obD, noDict] at n
theorem RpA.dp {K : PySem.W.Frag} {Z : Hp} {vs : List V} {ds : List D} (h : RpA K Z vs ds) (n : noDictA ds = true) : DpAll K Z vs ds := match h with
  | .nil => .nil
  | .cons h1 h2 => by
    simp only [noDictA, Bool.and_eq_true] at n
    exact .cons (Rp.dp h1 n.1) (RpA.dp h2 n.2)
end
theorem RpA.length {K : PySem.W.Frag} {Z : Hp} : ∀ {ds : List D} {vs : List V}, RpA K Z vs ds → vs.length = ds.length
  | [], _, h => by cases h; rfl
  | d :: ds, _, h => by
    cases h with
    | cons h1 h2 => simp [RpA.length h2]
theorem RpA.get {K : PySem.W.Frag} {Z : Hp} : ∀ {ds : List D} {vs : List V} {i : Nat} {d : D}, RpA K Z vs ds → ds[i]? = some d → ∃ v, vs[i]? = some v ∧ Rp K Z v d
  | [], _, _, _, h, e => by simp at e
  | d :: ds, _, 0, _, h, e => by
    cases h with
    | cons h1 h2 => simp at e; subst e; exact ⟨_, rfl, h1⟩
  | d :: ds, _, i + 1, _, h, e => by
    cases h with
    | cons h1 h2 =>
      obtain ⟨v, q1, q2⟩ := RpA.get h2 (by simpa using e)
      exact ⟨v, by simpa using q1, q2⟩
theorem RpA.getV {K : PySem.W.Frag} {Z : Hp} : ∀ {ds : List D} {vs : List V} {i : Nat} {v : V}, RpA K Z vs ds → vs[i]? = some v → ∃ d, ds[i]? = some d ∧ Rp K Z v d
  | [], _, _, _, h, e => by cases h; simp at e
  | d :: ds, _, 0, _, h, e => by
    cases h with
    | cons h1 h2 => simp at e; subst e; exact ⟨_, rfl, h1⟩
  | d :: ds, _, i + 1, _, h, e => by
    cases h with
    | cons h1 h2 =>
      obtain ⟨v, q1, q2⟩ := RpA.getV h2 (by simpa using e)
      exact ⟨v, by simpa using q1, q2⟩
theorem RpA.append {K : PySem.W.Frag} {Z : Hp} : ∀ {ds es : List D} {vs us : List V}, RpA K Z vs ds → RpA K Z us es → RpA K Z (vs ++ us) (ds ++ es)
  | [], _, _, _, h, h' => by cases h; exact h'
  | d :: ds, _, _, _, h, h' => by
    cases h with
    | cons h1 h2 => exact .cons h1 (RpA.append h2 h')
theorem RpA.take {K : PySem.W.Frag} {Z : Hp} : ∀ {ds : List D} {vs : List V} (n : Nat), RpA K Z vs ds → RpA K Z (vs.take n) (ds.take n)
  | _, _, 0, h => by simp; exact .nil
  | [], _, n + 1, h => by cases h; exact .nil
  | d :: ds, _, n + 1, h => by
    cases h with
    | cons h1 h2 => exact .cons h1 (RpA.take n h2)
theorem RpA.drop {K : PySem.W.Frag} {Z : Hp} : ∀ {ds : List D} {vs : List V} (n : Nat), RpA K Z vs ds → RpA K Z (vs.drop n) (ds.drop n)
  | _, _, 0, h => by simpa using h
  | [], _, n + 1, h => by cases h; exact .nil
  | d :: ds, _, n + 1, h => by
    cases h with
    | cons h1 h2 => exact RpA.drop n h2
theorem RpA.set {K : PySem.W.Frag} {Z : Hp} : ∀ {ds : List D} {vs : List V} (n : Nat) {v : V} {d : D}, RpA K Z vs ds → Rp K Z v d → RpA K Z (vs.set n v) (ds.set n d)
  | [], _, n, _, _, h, _ => by cases h; exact .nil
  | d :: ds, _, 0, _, _, h, h' => by
    cases h with
    | cons h1 h2 => exact .cons h' h2
  | d :: ds, _, n + 1, _, _, h, h' => by
    cases h with
    | cons h1 h2 => exact .cons h1 (RpA.set n h2 h')
theorem RpA.rev {K : PySem.W.Frag} {Z : Hp} : ∀ {ds : List D} {vs : List V}, RpA K Z vs ds → RpA K Z vs.reverse ds.reverse
  | [], _, h => by cases h; exact .nil
  | d :: ds, _, h => by
    cases h with
    | cons h1 h2 =>
      rw [List.reverse_cons, List.reverse_cons]
      exact RpA.append (RpA.rev h2) (.cons h1 .nil)
theorem RpA.rep {K : PySem.W.Frag} {Z : Hp} {ds : List D} {vs : List V} (h : RpA K Z vs ds) : ∀ k : Nat, RpA K Z (List.replicate k vs).flatten (List.replicate k ds).flatten
  | 0 => .nil
  | k + 1 => by
    rw [List.replicate_succ, List.flatten_cons, List.replicate_succ, List.flatten_cons]
    exact h.append (RpA.rep h k)
theorem RpA.eraseIdx {K : PySem.W.Frag} {Z : Hp} : ∀ {ds : List D} {vs : List V} (n : Nat), RpA K Z vs ds → RpA K Z (vs.eraseIdx n) (ds.eraseIdx n)
  | [], _, n, h => by cases h; exact .nil
  | d :: ds, _, 0, h => by
    cases h with
    | cons h1 h2 => exact h2
  | d :: ds, _, n + 1, h => by
    cases h with
    | cons h1 h2 => exact .cons h1 (RpA.eraseIdx n h2)

/-! ### slots and configurations -/
inductive Slot where
  | un
  | dat (d : D)
  | own (ds : List D)
  | dic (t : Bool) (es : List (D × D))
  | obj (a dx : Addr) (cls : Str) (ns : List Str) (ds : List D)
  | drw (a : Addr) (k : Int) (ns : List Int)
structure Cfg where
  Z : Hp
  H : Hp
  F : List Addr
/-- a dict as it stands at p -/
def DicAt (K : PySem.W.Frag) (Z : Hp) (o : Option HO) : Bool → List (D × D) → Prop
  | false, es => ∃ (ks : List Key) (vs : List V) (ds : List D), o = some (.dK (ks.zip vs)) ∧ ks.length = ds.length ∧ RpA K Z vs ds ∧ es = (ks.map kD).zip ds
  | true, es => ∃ (ks : List (List Key)) (vs : List V) (ds : List D), o = some (.dT (ks.zip vs)) ∧ ks.length = ds.length ∧ RpA K Z vs ds ∧ es = (ks.map kTD).zip ds
theorem DicAt.mono {K : PySem.W.Frag} {Z Z' : Hp} {o : Option HO} (e : Same Z Z') : ∀ {t : Bool} {es : List (D × D)}, DicAt K Z o t es → DicAt K Z' o t es
  | false, _, ⟨ks, vs, ds, h1, h2, h3, h4⟩ => ⟨ks, vs, ds, h1, h2, h3.mono e, h4⟩
  | true, _, ⟨ks, vs, ds, h1, h2, h3, h4⟩ => ⟨ks, vs, ds, h1, h2, h3.mono e, h4⟩
theorem DicAt.obj {K : PySem.W.Frag} {Z : Hp} {o : Option HO} : ∀ {t : Bool} {es : List (D × D)}, DicAt K Z o t es → ∃ u, o = some u ∧ Mut (some u) ∧ ∀ xs, u ≠ .tup xs
  | false, _, ⟨ks, vs, ds, h1, h2, h3, h4⟩ => ⟨_, h1, trivial, fun xs e => by cases e⟩
  | true, _, ⟨ks, vs, ds, h1, h2, h3, h4⟩ => ⟨_, h1, trivial, fun xs e => by cases e⟩
def SlotOk (K : PySem.W.Frag) (c : Cfg) : Slot → Option V → List Addr → Prop
  | .un, _, F => F = []
  | .dat d, x, F => F = [] ∧ ∃ v, x = some v ∧ Rp K c.Z v d
  | .own ds, x, F => ∃ p vs, F = [p] ∧ x = some (.ref p) ∧ c.H p = some (.lst vs) ∧ RpA K c.Z vs ds
  | .dic t es, x, F => ∃ p, F = [p] ∧ x = some (.ref p) ∧ DicAt K c.Z (c.H p) t es
  | .obj a dx cls ns ds, x, F => ∃ vs, F = [a, dx] ∧ x = some (.ref a) ∧ c.H a = some (.ins (He.ga K cls) dx (ns.zip vs)) ∧ c.H dx = some (.own a) ∧ ns.length = ds.length ∧ RpA K c.Z vs ds
  | .drw a k ns, x, F => ∃ b, F = [a, b] ∧ x = some (.ref a) ∧ c.H a = some (.lst [.int k, .ref b]) ∧ c.H b = some (.lst (ns.map V.int))
inductive HoldsL (K : PySem.W.Frag) (c : Cfg) : List Slot → St → List Addr → Prop
  | nil : HoldsL K c [] [] []
  | cons {s : Slot} {x : Option V} {F1 F2 : List Addr} {S : List Slot} {σ : St} : SlotOk K c s x F1 → HoldsL K c S σ F2 → HoldsL K c (s :: S) (x :: σ) (F1 ++ F2)
structure Holds (K : PySem.W.Frag) (S : List Slot) (σ : St) (c : Cfg) : Prop where
  l : HoldsL K c S σ c.F
  nd : c.F.Nodup
  zf : ∀ a ∈ c.F, c.Z a = none
  zh : Same c.Z c.H
structure Stp (c c' : Cfg) : Prop where
  z : Same c.Z c'.Z
  k : ∀ b o, c.H b = some o → b ∉ c.F → c'.H b = some o
  t : ∀ b o, c.H b = some o → ∃ o', c'.H b = some o'
  n : ∀ b o, c'.Z b = some o → c.Z b = some o ∨ c.H b = none ∨ b ∈ c.F ∨ ∃ xs, c.H b = some (.tup xs)
  f : ∀ b ∈ c'.F, b ∈ c.F ∨ c.H b = none
theorem Stp.refl (c : Cfg) : Stp c c := ⟨Same.refl _, fun _ _ h _ => h, fun _ o h => ⟨o, h⟩, fun _ _ h => .inl h, fun _ h => .inl h⟩
theorem Stp.was {c c' : Cfg} (a : Stp c c') {b : Addr} (h : c'.H b = none) : c.H b = none := by
  cases q : c.H b with
  | none => rfl
  | some o =>
    obtain ⟨o', e⟩ := a.t b o q
    rw [h] at e
    cases e
theorem Stp.trans {c c' c'' : Cfg} (a : Stp c c') (b : Stp c' c'') : Stp c c'' where
  z := a.z.trans b.z
  k := fun x o h hn => b.k x o (a.k x o h hn) fun hm => by
    rcases a.f x hm with z | z
    · exact hn z
    · rw [h] at z
      cases z
  t := fun x o h => by
    obtain ⟨o', e⟩ := a.t x o h
    exact b.t x o' e
  n := fun x o h => by
    rcases b.n x o h with z | z | z | ⟨xs, z⟩
    · exact a.n x o z
    · exact .inr (.inl (a.was z))
    · rcases a.f x z with z | z
      · exact .inr (.inr (.inl z))
      · exact .inr (.inl z)
    · cases q : c.H x with
      | none => exact .inr (.inl rfl)
      | some u =>
        by_cases m : x ∈ c.F
        · exact .inr (.inr (.inl m))
        · have q2 := a.k x u q m
          rw [z] at q2
          cases q2
          exact .inr (.inr (.inr ⟨xs, rfl⟩))
  f := fun x h => by
    rcases b.f x h with z | z
    · exact a.f x z
    · exact .inr (a.was z)
theorem SlotOk.tr {K : PySem.W.Frag} {c c' : Cfg} {s : Slot} {x : Option V} {F : List Addr} (h : SlotOk K c s x F) (z : Same c.Z c'.Z) (e : ∀ a ∈ F, c'.H a = c.H a) : SlotOk K c' s x F := by
  cases s with
  | un => exact h
  | dat d =>
    obtain ⟨h1, v, h2, h3⟩ := h
    exact ⟨h1, v, h2, h3.mono z⟩
  | own ds =>
    obtain ⟨p, vs, h1, h2, h3, h4⟩ := h
    subst h1
    exact ⟨p, vs, rfl, h2, (e p (List.mem_cons_self)).trans h3, h4.mono z⟩
  | dic t es =>
    obtain ⟨p, h1, h2, h3⟩ := h
    subst h1
    refine ⟨p, rfl, h2, ?_⟩
    rw [e p (List.mem_cons_self)]
    exact h3.mono z
  | obj a dx cls ns ds =>
    obtain ⟨vs, h1, h2, h3, h4, h5, h6⟩ := h
    subst h1
    exact ⟨vs, rfl, h2, (e a (by simp)).trans h3, (e dx (by simp)).trans h4, h5, h6.mono z⟩
  | drw a k ns =>
    obtain ⟨b, h1, h2, h3, h4⟩ := h
    subst h1
    exact ⟨b, rfl, h2, (e a (by simp)).trans h3, (e b (by simp)).trans h4⟩
theorem HoldsL.tr {K : PySem.W.Frag} {c c' : Cfg} (z : Same c.Z c'.Z) : ∀ {S : List Slot} {σ : St} {F : List Addr}, HoldsL K c S σ F → (∀ a ∈ F, c'.H a = c.H a) → HoldsL K c' S σ F
  | _, _, _, .nil, _ => .nil
  | _, _, _, .cons h t, e => .cons (h.tr z fun a m => e a (List.mem_append_left _ m)) (HoldsL.tr z t fun a m => e a (List.mem_append_right _ m))
theorem HoldsL.len {K : PySem.W.Frag} {c : Cfg} : ∀ {S : List Slot} {σ : St} {F : List Addr}, HoldsL K c S σ F → σ.length = S.length
  | _, _, _, .nil => rfl
  | _, _, _, .cons _ t => by simp [HoldsL.len t]
theorem HoldsL.at {K : PySem.W.Frag} {c : Cfg} : ∀ {S : List Slot} {σ : St} {F : List Addr} {i : Nat} {s : Slot}, HoldsL K c S σ F → S[i]? = some s →
    ∃ A Fi B x, F = A ++ (Fi ++ B) ∧ σ[i]? = some x ∧ SlotOk K c s x Fi ∧
      ∀ (c' : Cfg) s' x' F', Same c.Z c'.Z → (∀ a ∈ A ++ B, c'.H a = c.H a) → SlotOk K c' s' x' F' → HoldsL K c' (S.set i s') (σ.set i x') (A ++ (F' ++ B))
  | _, _, _, i, _, .nil, e => by simp at e
  | _, _, _, 0, s, .cons (F1 := F1) (F2 := F2) h t, e => by
    simp at e
    subst e
    refine ⟨[], F1, F2, _, rfl, rfl, h, fun c' s' x' F' z q o => ?_⟩
    rw [List.nil_append]
    exact .cons o (t.tr z fun a m => q a (by simpa using m))
  | _, _, _, i + 1, s, .cons (F1 := F1) (F2 := F2) h t, e => by
    obtain ⟨A, Fi, B, x, e1, e2, o, up⟩ := HoldsL.at (i := i) (s := s) t (by simpa using e)
    subst e1
    refine ⟨F1 ++ A, Fi, B, x, by simp, by simpa using e2, o, fun c' s' x' F' z q o' => ?_⟩
    rw [List.set_cons_succ, List.set_cons_succ, List.append_assoc]
    exact .cons (h.tr z fun a m => q a (by simp [m])) (up c' s' x' F' z (fun a m => q a (by simp at m; rcases m with m | m <;> simp [m])) o')
/-- a new object, frozen at once -/
def Cfg.lay (c : Cfg) (p : Addr) (o : HO) : Cfg := ⟨upd c.Z p o, upd c.H p o, c.F⟩
/-- a new object, kept apart -/
def Cfg.tmp (c : Cfg) (p : Addr) (o : HO) : Cfg := ⟨c.Z, upd c.H p o, c.F⟩
theorem same_upd {H : Hp} {p : Addr} {o : HO} (h : H p = none) : Same H (upd H p o) := fun b x e => by
  rw [upd_ne (ne_of_none e h)]
  exact e
theorem Holds.nf {K : PySem.W.Frag} {S : List Slot} {σ : St} {c : Cfg} (h : Holds K S σ c) {p : Addr} (hp : c.H p = none) : c.Z p = none := h.zh.free hp
theorem HoldsL.own {K : PySem.W.Frag} {c : Cfg} : ∀ {S : List Slot} {σ : St} {F : List Addr}, HoldsL K c S σ F → ∀ a ∈ F, ∃ o, c.H a = some o ∧ ∀ xs, o ≠ .tup xs
  | _, _, _, .nil, a, m => by simp at m
  | _, _, _, .cons (s := s) h t, a, m => by
    rcases List.mem_append.mp m with m | m
    · cases s with
      | un => subst h; simp at m
      | dat d =>
        obtain ⟨h1, _⟩ := h
        subst h1
        simp at m
      | own ds =>
        obtain ⟨p, vs, h1, h2, h3, h4⟩ := h
        subst h1
        simp at m
        subst m
        exact ⟨_, h3, fun xs e => by cases e⟩
      | dic t es =>
        obtain ⟨p, h1, h2, h3⟩ := h
        subst h1
        simp at m
        subst m
        obtain ⟨u, e1, _, e2⟩ := h3.obj
        exact ⟨u, e1, e2⟩
      | obj a' dx cls ns ds =>
        obtain ⟨vs, h1, h2, h3, h4, h5, h6⟩ := h
        subst h1
        simp at m
        rcases m with m | m
        · subst m
          exact ⟨_, h3, fun xs e => by cases e⟩
        · subst m
          exact ⟨_, h4, fun xs e => by cases e⟩
      | drw a' k ns =>
        obtain ⟨b, h1, h2, h3, h4⟩ := h
        subst h1
        simp at m
        rcases m with m | m
        · subst m
          exact ⟨_, h3, fun xs e => by cases e⟩
        · subst m
          exact ⟨_, h4, fun xs e => by cases e⟩
    · exact HoldsL.own t a m
theorem Holds.nF {K : PySem.W.Frag} {S : List Slot} {σ : St} {c : Cfg} (h : Holds K S σ c) {p : Addr} (hp : c.H p = none) : p ∉ c.F := fun m => by
  obtain ⟨o, e, _⟩ := h.l.own p m
  rw [hp] at e
  cases e
theorem Holds.lay {K : PySem.W.Frag} {S : List Slot} {σ : St} {c : Cfg} (h : Holds K S σ c) {p : Addr} {o : HO} (hp : c.H p = none) : Stp c (c.lay p o) ∧ Holds K S σ (c.lay p o) := by
  have hz := h.nf hp
  have hF := h.nF hp
  refine ⟨⟨same_upd hz, fun b x e _ => same_upd hp b x e, fun b x e => ⟨x, same_upd hp b x e⟩, fun b x e => ?_, fun b m => .inl m⟩, ⟨?_, h.nd, fun a m => ?_, ?_⟩⟩
  · by_cases hb : b = p
    · subst hb
      exact .inr (.inl hp)
    · have e' : upd c.Z p o b = some x := e
      rw [upd_ne hb] at e'
      exact .inl e'
  · refine h.l.tr (same_upd hz) fun a m => ?_
    have ne : a ≠ p := fun z => hF (z ▸ m)
    exact upd_ne ne
  · have ne : a ≠ p := fun z => hF (z ▸ m)
    show upd c.Z p o a = none
    rw [upd_ne ne]
    exact h.zf a m
  · intro b x e
    show upd c.H p o b = some x
    by_cases hb : b = p
    · subst hb
      have e' : upd c.Z b o b = some x := e
      rw [upd_same] at e' ⊢
      exact e'
    · have e' : upd c.Z p o b = some x := e
      rw [upd_ne hb] at e' ⊢
      exact h.zh b x e'
theorem Holds.tmp {K : PySem.W.Frag} {S : List Slot} {σ : St} {c : Cfg} (h : Holds K S σ c) {p : Addr} {o : HO} (hp : p ∉ c.F) (hz : c.Z p = none) (hk : ∀ x, c.H p = some x → ∃ y, o = y) : Holds K S σ (c.tmp p o) := by
  refine ⟨HoldsL.tr (c' := c.tmp p o) (Same.refl c.Z) h.l fun a m => upd_ne (show a ≠ p from fun z => hp (z ▸ m)), h.nd, h.zf, fun b x e => ?_⟩
  show upd c.H p o b = some x
  have ne : b ≠ p := fun z => by
    subst z
    have e' : c.Z b = some x := e
    rw [hz] at e'
    cases e'
  rw [upd_ne ne]
  exact h.zh b x e
theorem Holds.tmpS {K : PySem.W.Frag} {S : List Slot} {σ : St} {c : Cfg} (h : Holds K S σ c) {p : Addr} {o : HO} (hp : c.H p = none) : Stp c (c.tmp p o) ∧ Holds K S σ (c.tmp p o) :=
  ⟨⟨Same.refl _, fun b x e _ => same_upd hp b x e, fun b x e => ⟨x, same_upd hp b x e⟩, fun b x e => .inl e, fun b m => .inl m⟩, h.tmp (h.nF hp) (h.nf hp) fun _ _ => ⟨_, rfl⟩⟩

/-! ### what an expression, a statement is worth -/
structure Exn where
  cls : String
  fs : List (Str × V)
inductive Er (α : Type) where
  | ok (a : α) (S : List Slot)
  | ex (e : Exn) (S : List Slot)
  | bad
abbrev EM (α : Type) := List Slot → Er α
def eRet {α : Type} (a : α) : EM α := fun S => .ok a S
def eOpt {α : Type} : Option α → EM α
  | some a => fun S => .ok a S
  | none => fun _ => .bad
def eBind {α β : Type} (m : EM α) (g : α → EM β) : EM β := fun S => match m S with
  | .ok a S' => g a S'
  | .ex e S' => .ex e S'
  | .bad => .bad
inductive Out where
  | nx (S : List Slot)
  | rt (d : D) (S : List Slot)
  | bk (S : List Slot)
  | ct (S : List Slot)
  | ex (e : Exn) (S : List Slot)
  | bad
abbrev SM := List Slot → Out

structure Gx where
  K : PySem.W.Frag
  mg : Str → Option Value
  W : WX
/-- an exception as it lies -/
def ExOk (mg : Str → Option Value) (H : Hp) (e : Exn) (cls : Value) (dx : Option Addr) : Prop :=
  ∃ C d, mg (Str.ofString e.cls) = some (.ref C) ∧ cls = .ref C ∧ dx = some d ∧ H d = some (.xd e.fs)
def Go {α : Type} (G : Gx) (σ : St) (c : Cfg) (r : Er α) (P : α → List Slot → Cfg → Prop) : Prop := match r with
  | .ok a S => ∀ c', Stp c c' → Holds G.K S σ c' → P a S c'
  | .ex e S => ∀ c' cls dx, Stp c c' → Holds G.K S σ c' → ExOk G.mg c'.Z e cls dx → G.W cls dx σ c'.H
  | .bad => False
theorem Go.step {α : Type} {G : Gx} {σ : St} {c c1 : Cfg} {r : Er α} {P : α → List Slot → Cfg → Prop} (h : Go G σ c r P) (s : Stp c c1) : Go G σ c1 r P := by
  cases r with
  | ok a S => exact fun c' s' o => h c' (s.trans s') o
  | ex e S => exact fun c' cls dx s' o x => h c' cls dx (s.trans s') o x
  | bad => exact h
theorem Go.mono {α : Type} {G : Gx} {σ : St} {c : Cfg} {r : Er α} {P P' : α → List Slot → Cfg → Prop} (h : Go G σ c r P) (i : ∀ a S c', Stp c c' → Holds G.K S σ c' → P a S c' → P' a S c') : Go G σ c r P' := by
  cases r with
  | ok a S => exact fun c' s' o => i a S c' s' o (h c' s' o)
  | ex e S => exact h
  | bad => exact h
theorem Go.bind {α β : Type} {G : Gx} {σ : St} {c : Cfg} {m : EM α} {g : α → EM β} {S : List Slot} {P : β → List Slot → Cfg → Prop} (h : Go G σ c (eBind m g S) P) :
    Go G σ c (m S) (fun a S1 c1 => Go G σ c1 (g a S1) P) := by
  unfold eBind at h
  cases q : m S with
  | ok a S' =>
    rw [q] at h
    exact fun c' s' o => Go.step h s'
  | ex e S' =>
    rw [q] at h
    exact h
  | bad =>
    rw [q] at h
    exact h.elim
/-- the value of data is wanted -/
abbrev VP (G : Gx) (Q : VK) : D → List Slot → Cfg → Prop := fun d _ c' => ∀ v, Rp G.K c'.Z v d → Q v c'.H
def tD (G : Gx) (f : EM D) : TE := fun σ H Q => ∃ S Z F, Holds G.K S σ ⟨Z, H, F⟩ ∧ Go G σ ⟨Z, H, F⟩ (f S) (VP G Q)
def tB' (G : Gx) (f : EM Bool) : TT := fun σ H Q => ∃ S Z F, Holds G.K S σ ⟨Z, H, F⟩ ∧ Go G σ ⟨Z, H, F⟩ (f S) (fun b _ c' => Q b c'.H)
def tDs (G : Gx) (f : EM (List D)) : TA := fun σ H Q => ∃ S Z F, Holds G.K S σ ⟨Z, H, F⟩ ∧ Go G σ ⟨Z, H, F⟩ (f S) (fun ds _ c' => ∀ vs, RpA G.K c'.Z vs ds → Q vs c'.H)
def GoS (G : Gx) (c : Cfg) (Q : Ends) : Out → Prop
  | .nx S => ∀ σ' c', Stp c c' → Holds G.K S σ' c' → Q.nx σ' c'.H
  | .rt d S => ∀ σ' c' v, Stp c c' → Holds G.K S σ' c' → Rp G.K c'.Z v d → Q.rt v c'.H
  | .bk S => ∀ σ' c', Stp c c' → Holds G.K S σ' c' → Q.bk σ' c'.H
  | .ct S => ∀ σ' c', Stp c c' → Holds G.K S σ' c' → Q.ct σ' c'.H
  | .ex e S => ∀ σ' c' cls dx, Stp c c' → Holds G.K S σ' c' → ExOk G.mg c'.Z e cls dx → G.W cls dx σ' c'.H
  | .bad => False
theorem GoS.step {G : Gx} {c c1 : Cfg} {Q : Ends} {r : Out} (h : GoS G c Q r) (s : Stp c c1) : GoS G c1 Q r := by
  cases r with
  | nx S => exact fun σ' c' s' o => h σ' c' (s.trans s') o
  | rt d S => exact fun σ' c' v s' o x => h σ' c' v (s.trans s') o x
  | bk S => exact fun σ' c' s' o => h σ' c' (s.trans s') o
  | ct S => exact fun σ' c' s' o => h σ' c' (s.trans s') o
  | ex e S => exact fun σ' c' cls dx s' o x => h σ' c' cls dx (s.trans s') o x
  | bad => exact h
def tS (G : Gx) (f : SM) : TS := fun Q σ H => ∃ S Z F, Holds G.K S σ ⟨Z, H, F⟩ ∧ GoS G ⟨Z, H, F⟩ Q (f S)
theorem Go.toS {α : Type} {G : Gx} {σ : St} {c : Cfg} {Q : Ends} {r : Er α} {k : α → List Slot → Out} {P : α → List Slot → Cfg → Prop}
    (h : GoS G c Q (match r with | .ok a S => k a S | .ex e S => .ex e S | .bad => .bad)) (i : ∀ a S c', Stp c c' → Holds G.K S σ c' → GoS G c' Q (k a S) → P a S c') : Go G σ c r P := by
  cases r with
  | ok a S => exact fun c' s o => i a S c' s o (h.step s)
  | ex e S => exact fun c' cls dx s o x => h σ c' cls dx s o x
  | bad => exact h.elim

/-! ### weaker readings -/
theorem PE.wk {X : Cx} {e : Expr} {t t' : TE} (h : PE X e t) (i : ∀ σ H Q, t' σ H Q → t σ H Q) : PE X e t' := ⟨fun pins s σ H Q I q => h.run pins s σ H Q I (i _ _ _ q)⟩
theorem PT.wk {X : Cx} {e : Expr} {t t' : TT} (h : PT X e t) (i : ∀ σ H Q, t' σ H Q → t σ H Q) : PT X e t' := ⟨fun pins s σ H Q I q => h.run pins s σ H Q I (i _ _ _ q)⟩
theorem PW.wk {X : Cx} {e : Expr} {t t' : TT} (h : PW X e t) (i : ∀ σ H Q, t' σ H Q → t σ H Q) : PW X e t' := ⟨fun wh pins s σ H Q I q => h.run wh pins s σ H Q I (i _ _ _ q)⟩
theorem PA.wk {X : Cx} {es : List Expr} {t t' : TA} (h : PA X es t) (i : ∀ σ H Q, t' σ H Q → t σ H Q) : PA X es t' := ⟨fun pos pins s σ H Q I q => h.run pos pins s σ H Q I (i _ _ _ q)⟩
theorem PS.wk {X : Cx} {st : Stmt} {t t' : TS} (h : PS X st t) (i : ∀ Q σ H, t' Q σ H → t Q σ H) : PS X st t' := ⟨fun pins s σ H Q I q => h.run pins s σ H Q I (i _ _ _ q)⟩
theorem PSs.wk {X : Cx} {st : List Stmt} {t t' : TS} (h : PSs X st t) (i : ∀ Q σ H, t' Q σ H → t Q σ H) : PSs X st t' := ⟨fun pins s σ H Q I q => h.run pins s σ H Q I (i _ _ _ q)⟩
end FW

/-! FwB: expressions. -/
namespace FW
open PySem PySem.Spec L2
open PyProof.Rows hiding St
abbrev gx (X : Cx) (W : WX) : Gx := ⟨X.K, X.mg, W⟩
section
variable {X : Cx} {W : WX}
def DE (X : Cx) (W : WX) (e : Expr) (f : EM D) : Prop := PE X e (tD (gx X W) f)
def DT (X : Cx) (W : WX) (e : Expr) (f : EM Bool) : Prop := PT X e (tB' (gx X W) f)
def DA (X : Cx) (W : WX) (es : List Expr) (f : EM (List D)) : Prop := PA X es (tDs (gx X W) f)

/-! ### names and constants -/
def eV (i : Nat) : EM D := fun S => match S[i]? with
  | some (.dat d) => .ok d S
  | some (.own ds) => .ok (.list ds) (S.set i (.dat (.list ds)))
  | some (.dic t es) => .ok (dictD t es) (S.set i (.dat (dictD t es)))
  | _ => .bad
theorem Holds.datAt {K : PySem.W.Frag} {S : List Slot} {σ : L2.St} {c : Cfg} {i : Nat} {d : D} (h : Holds K S σ c) (e : S[i]? = some (.dat d)) : ∃ v, σ[i]? = some (some v) ∧ Rp K c.Z v d := by
  obtain ⟨A, Fi, B, x, _, e2, ⟨_, v, e3, r⟩, _⟩ := h.l.at e
  subst e3
  exact ⟨v, e2, r⟩
theorem list_set_self {α : Type} {l : List α} {i : Nat} {x : α} (h : l[i]? = some x) : l.set i x = l := by
  apply List.ext_getElem?
  intro j
  rw [List.getElem?_set]
  split
  · rename_i e
    subst e
    rw [h]
    split
    · rfl
    · rename_i hn
      rw [List.getElem?_eq_none (by omega)] at h
      cases h
  · rfl
/-- a list that is held alone is given free: it stays as it is from now on -/
theorem Holds.freeze {K : PySem.W.Frag} {S : List Slot} {σ : L2.St} {c : Cfg} {i : Nat} {ds : List D} (h : Holds K S σ c) (e : S[i]? = some (.own ds)) :
    ∃ p c', σ[i]? = some (some (.ref p)) ∧ c'.H = c.H ∧ Stp c c' ∧ Holds K (S.set i (.dat (.list ds))) σ c' ∧ Rp K c'.Z (.ref p) (.list ds) := by
  obtain ⟨A, Fi, B, x, e1, e2, ⟨p, vs, e3, e4, e5, e6⟩, up⟩ := h.l.at e
  subst e3 e4
  have nd := h.nd
  have zf := h.zf
  rw [e1] at nd zf
  have hz : c.Z p = none := zf p (by simp)
  have sm : Same c.Z (upd c.Z p (.lst vs)) := same_upd hz
  have r : Rp K (upd c.Z p (.lst vs)) (.ref p) (.list ds) := .lst upd_same (e6.mono sm)
  refine ⟨p, ⟨upd c.Z p (.lst vs), c.H, A ++ B⟩, e2, rfl, ⟨sm, fun _ _ q _ => q, fun _ o q => ⟨o, q⟩, fun b o q => ?_, fun b m => .inl ?_⟩, ⟨?_, ?_, fun a m => ?_, fun b o q => ?_⟩, r⟩
  · by_cases hb : b = p
    · subst hb
      exact .inr (.inr (by rw [e1]; simp))
    · have q' : upd c.Z p (.lst vs) b = some o := q
      rw [upd_ne hb] at q'
      exact .inl q'
  · rw [e1]
    have m' : b ∈ A ++ B := m
    simp at m' ⊢
    rcases m' with m' | m' <;> simp [m']
  · have q := up ⟨upd c.Z p (.lst vs), c.H, A ++ B⟩ (.dat (.list ds)) (some (.ref p)) [] sm (fun _ _ => rfl) ⟨rfl, _, rfl, r⟩
    rw [list_set_self e2] at q
    exact q
  · show (A ++ B).Nodup
    simp only [List.nodup_append, List.nodup_cons, List.mem_append, List.mem_cons] at nd ⊢
    grind
  · have m' : a ∈ A ++ B := m
    have ne : a ≠ p := by
      rintro rfl
      simp only [List.nodup_append, List.nodup_cons, List.mem_append, List.mem_cons] at nd m'
      grind
    show upd c.Z p (.lst vs) a = none
    rw [upd_ne ne]
    exact zf a (by simp at m' ⊢; rcases m' with m' | m' <;> simp [m'])
  · have q' : upd c.Z p (.lst vs) b = some o := q
    by_cases hb : b = p
    · subst hb
      rw [upd_same] at q'
      rw [← q']
      exact e5
    · rw [upd_ne hb] at q'
      exact h.zh b o q'
/-- behind an expression a thing may be locked for good -/
def tFrz (t : TE) : TE := fun σ H Q => t σ H fun v H1 => Q v H1 ∨ ∃ d u, H1 d = some u ∧ Mut (some u) ∧ ∀ od, Q v (upd H1 d (.frz od u))
theorem pe_frz {e : Expr} {t : TE} (h : PE X e t) : PE X e (tFrz t) := by
  refine ⟨fun pins s σ H Q I hw => ?_⟩
  refine thn (h.run pins s σ _ _ I hw) fun v s1 ⟨x, H1, I1, r, q⟩ => ?_
  rcases q with q | ⟨d, u, hd, mu, q⟩
  · exact ⟨x, H1, I1, r, q⟩
  · obtain ⟨od, I2⟩ := I1.lock hd mu
    exact ⟨x, _, I2, r, q od⟩
theorem DicAt.lockR {K : PySem.W.Frag} {Z : Hp} {u : HO} {p : Addr} {o : Obj} : ∀ {t : Bool} {es : List (D × D)}, DicAt K Z (some u) t es → Z p = some (.frz o u) → Rp K Z (.ref p) (dictD t es)
  | false, _, ⟨ks, vs, ds, h1, h2, h3, h4⟩, e => by
    cases h1
    subst h4
    exact .dk e h2 h3
  | true, _, ⟨ks, vs, ds, h1, h2, h3, h4⟩, e => by
    cases h1
    subst h4
    exact .dt e h2 h3
/-- a dict that is held alone is given free -/
theorem Holds.freezeD {K : PySem.W.Frag} {S : List Slot} {σ : L2.St} {c : Cfg} {i : Nat} {t : Bool} {es : List (D × D)} (h : Holds K S σ c) (e : S[i]? = some (.dic t es)) :
    ∃ p u, σ[i]? = some (some (.ref p)) ∧ c.H p = some u ∧ Mut (some u) ∧ ∀ od, ∃ c', c'.H = upd c.H p (.frz od u) ∧ Stp c c' ∧ Holds K (S.set i (.dat (dictD t es))) σ c' ∧ Rp K c'.Z (.ref p) (dictD t es) := by
  obtain ⟨A, Fi, B, x, e1, e2, ⟨p, e3, e4, e5⟩, up⟩ := h.l.at e
  subst e3 e4
  obtain ⟨u, e6, mu, _⟩ := e5.obj
  refine ⟨p, u, e2, e6, mu, fun od => ?_⟩
  have nd := h.nd
  have zf := h.zf
  rw [e1] at nd zf
  have hz : c.Z p = none := zf p (by simp)
  have sm : Same c.Z (upd c.Z p (.frz od u)) := same_upd hz
  have r : Rp K (upd c.Z p (.frz od u)) (.ref p) (dictD t es) := by
    rw [e6] at e5
    exact (e5.mono sm).lockR upd_same
  have ne : ∀ a ∈ A ++ B, a ≠ p := fun a m => by
    rintro rfl
    simp only [List.nodup_append, List.nodup_cons, List.mem_append, List.mem_cons] at nd m
    grind
  refine ⟨⟨upd c.Z p (.frz od u), upd c.H p (.frz od u), A ++ B⟩, rfl, ⟨sm, fun b o q hn => ?_, fun b o q => ?_, fun b o q => ?_, fun b m => .inl ?_⟩, ⟨?_, ?_, fun a m => ?_, fun b o q => ?_⟩, r⟩
  · exact (upd_ne (show b ≠ p from fun z => hn (by rw [z, e1]; simp))).trans q
  · by_cases hb : b = p
    · subst hb
      exact ⟨_, upd_same⟩
    · exact ⟨o, (upd_ne hb).trans q⟩
  · by_cases hb : b = p
    · subst hb
      exact .inr (.inr (.inl (by rw [e1]; simp)))
    · have q' : upd c.Z p (.frz od u) b = some o := q
      rw [upd_ne hb] at q'
      exact .inl q'
  · rw [e1]
    have m' : b ∈ A ++ B := m
    simp at m' ⊢
    rcases m' with m' | m' <;> simp [m']
  · have q := up ⟨upd c.Z p (.frz od u), upd c.H p (.frz od u), A ++ B⟩ (.dat (dictD t es)) (some (.ref p)) [] sm (fun a m => upd_ne (ne a m)) ⟨rfl, _, rfl, r⟩
    rw [list_set_self e2] at q
    exact q
  · show (A ++ B).Nodup
    simp only [List.nodup_append, List.nodup_cons, List.mem_append, List.mem_cons] at nd ⊢
    grind
  · show upd c.Z p (.frz od u) a = none
    rw [upd_ne (ne a m)]
    exact zf a (by have m' : a ∈ A ++ B := m; simp at m' ⊢; rcases m' with m' | m' <;> simp [m'])
  · have q' : upd c.Z p (.frz od u) b = some o := q
    show upd c.H p (.frz od u) b = some o
    by_cases hb : b = p
    · subst hb
      rw [upd_same] at q' ⊢
      exact q'
    · rw [upd_ne hb] at q' ⊢
      exact h.zh b o q'
theorem de_v (i : Nat) {x : Str} {pos : Pos} (hN : X.N[i]? = some x := by rfl) (hv : Vis X.env.scope x := by first | exact Or.inl rfl | exact Or.inr (Or.inl rfl) | exact Or.inr (Or.inr rfl)) (hd : (x == ("__debug__" : Str)) = false := by decide)
    (hcd : (x == ("__classdict__" : Str)) = false := by decide) : DE X W (.Name x pos) (eV i) := by
  refine PE.wk (pe_frz (pe_var hN hv hd hcd)) fun σ H Q q => ?_
  obtain ⟨S, Z, F, h, g⟩ := q
  unfold eV at g
  cases e : S[i]? with
  | none => rw [e] at g; exact g.elim
  | some s =>
    rw [e] at g
    cases s with
    | un => exact g.elim
    | drw _ _ _ => exact g.elim
    | obj _ _ _ _ _ => exact g.elim
    | dic t es =>
      obtain ⟨p, u, e2, e3, mu, back⟩ := h.freezeD e
      refine ⟨.ref p, e2, .inr ⟨p, u, e3, mu, fun od => ?_⟩⟩
      obtain ⟨c', e4, st, h', r⟩ := back od
      have q := g c' st h' (.ref p) r
      rw [e4] at q
      exact q
    | dat d =>
      obtain ⟨v, e2, r⟩ := h.datAt e
      exact ⟨v, e2, .inl (g _ (Stp.refl _) h v r)⟩
    | own ds =>
      obtain ⟨p, c', e2, e3, st, h', r⟩ := h.freeze e
      refine ⟨.ref p, e2, .inl ?_⟩
      have q := g c' st h' (.ref p) r
      rw [e3] at q
      exact q
def eC (d : D) : EM D := eRet d
theorem de_c {e : Expr} {v : V} {d : D} (h : PE X e (L2.tC v)) (r : ∀ Z, Rp X.K Z v d) : DE X W e (eC d) := by
  refine PE.wk h fun σ H Q q => ?_
  obtain ⟨S, Z, F, h, g⟩ := q
  exact g _ (Stp.refl _) h v (r _)
theorem de_int {i j pos} : DE X W (.Constant (.int i) j pos) (eC (.int i)) := de_c pe_int fun _ => .int i
theorem de_bl {b j pos} : DE X W (.Constant (.bool b) j pos) (eC (.bool b)) := de_c pe_bl fun _ => .bl b
theorem de_non {j pos} : DE X W (.Constant .none j pos) (eC .none) := de_c pe_non fun _ => .non
theorem de_str {x j pos} : DE X W (.Constant (.str x) j pos) (eC (.str x)) := de_c pe_str fun _ => .str x

/-! ### operators by values -/
/-- data as an operand: a list may be one that a slot holds alone -/
inductive Lo (K : PySem.W.Frag) (c : Cfg) : V → D → Prop
  | z {v : V} {d : D} : Rp K c.Z v d → Lo K c v d
  | o {p : Addr} {vs : List V} {ds : List D} : c.H p = some (.lst vs) → RpA K c.Z vs ds → Lo K c (.ref p) (.list ds)
  | d {p : Addr} {t : Bool} {es : List (D × D)} : DicAt K c.Z (c.H p) t es → Lo K c (.ref p) (dictD t es)
theorem Lo.noneI {K : PySem.W.Frag} {c : Cfg} {x : V} (h : Lo K c x .none) : x = .non := by
  cases h with
  | z h => cases h; rfl
theorem Lo.boolI {K : PySem.W.Frag} {c : Cfg} {x : V} {b : Bool} (h : Lo K c x (.bool b)) : x = .bl b := by
  cases h with
  | z h => cases h; rfl
theorem Lo.intI {K : PySem.W.Frag} {c : Cfg} {x : V} {i : Int} (h : Lo K c x (.int i)) : x = .int i := by
  cases h with
  | z h => cases h; rfl
theorem Lo.strI {K : PySem.W.Frag} {c : Cfg} {x : V} {z : Str} (h : Lo K c x (.str z)) : x = .str z := by
  cases h with
  | z h => cases h; rfl
theorem Lo.tupI {K : PySem.W.Frag} {c : Cfg} {x : V} {ds : List D} (h : Lo K c x (.tuple ds)) : ∃ a xs, x = .ref a ∧ SqT K c.Z a xs ∧ RpA K c.Z xs ds := by
  cases h with
  | z h =>
    cases h with
    | tup h1 h2 => exact ⟨_, _, rfl, SqT.of h1, h2⟩
theorem Lo.lstI {K : PySem.W.Frag} {c : Cfg} {x : V} {ds : List D} (sm : Same c.Z c.H) (h : Lo K c x (.list ds)) : ∃ a xs, x = .ref a ∧ c.H a = some (.lst xs) ∧ RpA K c.Z xs ds := by
  cases h with
  | z h =>
    cases h with
    | lst h1 h2 => exact ⟨_, _, rfl, sm _ _ h1, h2⟩
  | o h1 h2 => exact ⟨_, _, rfl, h1, h2⟩
theorem noDict_dictD (t : Bool) (es : List (D × D)) : noDict (dictD t es) = false := rfl
theorem Lo.dp {K : PySem.W.Frag} {c : Cfg} {x : V} {d : D} (sm : Same c.Z c.H) (h : Lo K c x d) (n : noDict d = true) : Dp K c.H x d := by
  cases h with
  | z h => exact (h.mono sm).dp n
  | o h1 h2 => exact .lst (SqL.of h1) ((h2.mono sm).dp n)
  | d h1 => rw [noDict_dictD] at n; cases n
theorem Lo.tupZ {K : PySem.W.Frag} {c : Cfg} {x : V} {ds : List D} (h : Lo K c x (.tuple ds)) : Rp K c.Z x (.tuple ds) := by
  cases h with
  | z h => exact h
/-- it is None -/
def isNoneD : D → Bool
  | .none => true
  | _ => false
theorem Lo.isNone {K : PySem.W.Frag} {c : Cfg} {x : V} {d : D} (h : Lo K c x d) : decide (x = .non) = isNoneD d := by
  cases h with
  | z h => cases h <;> simp [isNoneD, obD]
  | o h1 h2 => simp [isNoneD]
  | d h1 => simp [isNoneD, dictD]
def tLo (G : Gx) (f : EM D) : TE := fun σ H Q => ∃ S Z F, Holds G.K S σ ⟨Z, H, F⟩ ∧ Go G σ ⟨Z, H, F⟩ (f S) (fun d _ c' => ∀ v, Lo G.K c' v d → Q v c'.H)
def DL (X : Cx) (W : WX) (e : Expr) (f : EM D) : Prop := PE X e (tLo (gx X W) f)
theorem dl_e {e : Expr} {f : EM D} (h : DE X W e f) : DL X W e f := PE.wk h fun σ H Q q => by
  obtain ⟨S, Z, F, h, q⟩ := q
  exact ⟨S, Z, F, h, q.mono fun d S1 c1 _ _ q1 v rv => q1 v (.z rv)⟩
/-- a list or a dict in a slot of its own, as an operand -/
def slotO : Slot → Option D
  | .own ds => some (.list ds)
  | .dic t es => some (dictD t es)
  | _ => none
def slotAt (S : List Slot) (i : Nat) : Option D := (S[i]?).bind slotO
def eVO (i : Nat) : EM D := fun S => match slotAt S i with
  | some d => .ok d S
  | none => .bad
theorem Holds.ownAt {K : PySem.W.Frag} {S : List Slot} {σ : L2.St} {c : Cfg} {i : Nat} {ds : List D} (h : Holds K S σ c) (e : S[i]? = some (.own ds)) : ∃ p vs, σ[i]? = some (some (V.ref p)) ∧ c.H p = some (.lst vs) ∧ RpA K c.Z vs ds ∧ p ∈ c.F := by
  obtain ⟨A, Fi, B, x, e1, e2, ⟨p, vs, e3, e4, e5, e6⟩, _⟩ := h.l.at e
  subst e3 e4
  exact ⟨p, vs, e2, e5, e6, by rw [e1]; simp⟩
theorem Holds.loAt {K : PySem.W.Frag} {S : List Slot} {σ : L2.St} {c : Cfg} {i : Nat} {d : D} (h : Holds K S σ c) (e : slotAt S i = some d) : ∃ p, σ[i]? = some (some (V.ref p)) ∧ Lo K c (.ref p) d := by
  unfold slotAt at e
  obtain ⟨s, e1, e2⟩ := Option.bind_eq_some_iff.mp e
  obtain ⟨A, Fi, B, x, e3, e4, q, _⟩ := h.l.at e1
  cases s with
  | own ds =>
    obtain ⟨p, vs, e5, e6, e7, e8⟩ := q
    cases e2
    subst e6
    exact ⟨p, e4, .o e7 e8⟩
  | dic t es =>
    obtain ⟨p, e5, e6, e7⟩ := q
    cases e2
    subst e6
    exact ⟨p, e4, .d e7⟩
  | un => cases e2
  | dat d => cases e2
  | drw _ _ _ => cases e2
  | obj _ _ _ _ _ => cases e2
theorem dl_o (i : Nat) {x : Str} {pos : Pos} (hN : X.N[i]? = some x := by rfl) (hv : Vis X.env.scope x := by first | exact Or.inl rfl | exact Or.inr (Or.inl rfl) | exact Or.inr (Or.inr rfl)) (hd : (x == ("__debug__" : Str)) = false := by decide)
    (hcd : (x == ("__classdict__" : Str)) = false := by decide) : DL X W (.Name x pos) (eVO i) := by
  refine PE.wk (pe_var hN hv hd hcd) fun σ H Q q => ?_
  obtain ⟨S, Z, F, h, g⟩ := q
  unfold eVO at g
  split at g
  · rename_i d e
    obtain ⟨p, e2, r⟩ := h.loAt e
    exact ⟨.ref p, e2, g _ (Stp.refl _) h _ r⟩
  · exact g.elim
/-- what an operation does with data -/
def OpD (X : Cx) (W : WX) (f : Value → Value → Sem Value) (g : D → D → Option D) : Prop := ∃ r : R2, OpR X f r ∧
  ∀ (x y : V) (a b d : D) (S : List Slot) (σ : L2.St) (c : Cfg) (Q : VK), g a b = some d → Holds X.K S σ c → Lo X.K c x a → Lo X.K c y b →
    (∀ c' v, Stp c c' → Holds X.K S σ c' → Rp X.K c'.Z v d → Q v c'.H) → r x y c.H Q
def eBin (g : D → D → Option D) (fa fb : EM D) : EM D := eBind fa fun a => eBind fb fun b => eOpt (g a b)
def eUn (g : D → Option D) (fa : EM D) : EM D := eBind fa fun a => eOpt (g a)
theorem Go.opt {α : Type} {G : Gx} {σ : L2.St} {c : Cfg} {o : Option α} {S : List Slot} {P : α → List Slot → Cfg → Prop} (h : Go G σ c (eOpt o S) P) : ∃ a, o = some a ∧ ∀ c', Stp c c' → Holds G.K S σ c' → P a S c' := by
  cases o with
  | none => exact h.elim
  | some a => exact ⟨a, rfl, h⟩
theorem bin_rd {r : R2} {g : D → D → Option D} {ea eb : Expr} {fa fb : EM D} (hr : ∀ (x y : V) (a b d : D) (S : List Slot) (σ : L2.St) (c : Cfg) (Q : VK), g a b = some d → Holds X.K S σ c → Lo X.K c x a → Lo X.K c y b →
    (∀ c' v, Stp c c' → Holds X.K S σ c' → Rp X.K c'.Z v d → Q v c'.H) → r x y c.H Q) (σ : L2.St) (H : Hp) (Q : VK) (q : tD (gx X W) (eBin g fa fb) σ H Q) : tOp r (tD (gx X W) fa) (tLo (gx X W) fb) σ H Q := by
  obtain ⟨S, Z, F, h, q⟩ := q
  refine ⟨S, Z, F, h, (Go.bind q).mono fun a S1 c1 s1 h1 q1 x rx => ?_⟩
  refine ⟨S1, c1.Z, c1.F, h1, (Go.bind q1).mono fun b S2 c2 s2 h2 q2 y ry => ?_⟩
  obtain ⟨d, e, k⟩ := Go.opt q2
  exact hr x y a b d S2 σ c2 Q e h2 (.z (rx.mono s2.z)) ry fun c' v st hh rv => k c' st hh v rv
theorem de_op {op : Operator} {g : D → D → Option D} {ea eb : Expr} {fa fb : EM D} {pos : Pos} (ho : OpD X W (binaryOp op) g) (ha : DE X W ea fa) (hb : DL X W eb fb) : DE X W (.BinOp ea op eb pos) (eBin g fa fb) := by
  obtain ⟨r, ho, hr⟩ := ho
  exact PE.wk (pe_op ho ha hb) (bin_rd (ea := ea) (eb := eb) hr)
theorem de_cmp {op : CmpOp} {g : D → D → Option D} {ea eb : Expr} {fa fb : EM D} {pos : Pos} (ho : OpD X W (compareOp op) g) (ha : DE X W ea fa) (hb : DL X W eb fb) (hm : behindInMarks op eb = false) : DE X W (.Compare ea [op] [eb] pos) (eBin g fa fb) := by
  obtain ⟨r, ho, hr⟩ := ho
  exact PE.wk (pe_cmpR ho ha hb hm) (bin_rd (ea := ea) (eb := eb) hr)
/-- the left operand a list in a slot of its own -/
def eBinO (g : D → D → Option D) (i : Nat) (fb : EM D) : EM D := fun S0 => match slotAt S0 i with
  | some _ => eBind fb (fun b S => match slotAt S i with
    | some a => eOpt (g a b) S
    | none => .bad) S0
  | none => .bad
theorem binO_rd {r : R2} {g : D → D → Option D} {i : Nat} {fb : EM D} (hr : ∀ (x y : V) (a b d : D) (S : List Slot) (σ : L2.St) (c : Cfg) (Q : VK), g a b = some d → Holds X.K S σ c → Lo X.K c x a → Lo X.K c y b →
    (∀ c' v, Stp c c' → Holds X.K S σ c' → Rp X.K c'.Z v d → Q v c'.H) → r x y c.H Q) (σ : L2.St) (H : Hp) (Q : VK) (q : tD (gx X W) (eBinO g i fb) σ H Q) : tOp r (tVar i) (tD (gx X W) fb) σ H Q := by
  obtain ⟨S, Z, F, h, q⟩ := q
  unfold eBinO at q
  split at q
  · rename_i d0 e0
    obtain ⟨p0, e2, _⟩ := h.loAt e0
    refine ⟨.ref p0, e2, S, Z, F, h, (Go.bind q).mono fun b S1 c1 s1 h1 q1 y ry => ?_⟩
    split at q1
    · rename_i a e1
      obtain ⟨p1, e3, r1⟩ := h1.loAt e1
      rw [e2] at e3
      cases e3
      obtain ⟨d, e, k⟩ := Go.opt q1
      exact hr _ y _ b d S1 σ c1 Q e h1 r1 (.z ry) fun c' v st hh rv => k c' st hh v rv
    · exact q1.elim
  · exact q.elim
theorem de_opO {op : Operator} {g : D → D → Option D} (i : Nat) {x : Str} {p : Pos} {eb : Expr} {fb : EM D} {pos : Pos} (ho : OpD X W (binaryOp op) g) (hb : DE X W eb fb) (hN : X.N[i]? = some x := by rfl) (hv : Vis X.env.scope x := by first | exact Or.inl rfl | exact Or.inr (Or.inl rfl) | exact Or.inr (Or.inr rfl)) (hd : (x == ("__debug__" : Str)) = false := by decide)
    (hcd : (x == ("__classdict__" : Str)) = false := by decide) : DE X W (.BinOp (.Name x p) op eb pos) (eBinO g i fb) := by
  obtain ⟨r, ho, hr⟩ := ho
  exact PE.wk (pe_op ho (pe_var hN hv hd hcd) hb) (binO_rd hr)
theorem de_cmpO {op : CmpOp} {g : D → D → Option D} (i : Nat) {x : Str} {p : Pos} {eb : Expr} {fb : EM D} {pos : Pos} (ho : OpD X W (compareOp op) g) (hb : DE X W eb fb) (hm : behindInMarks op eb = false) (hN : X.N[i]? = some x := by rfl) (hv : Vis X.env.scope x := by first | exact Or.inl rfl | exact Or.inr (Or.inl rfl) | exact Or.inr (Or.inr rfl)) (hd : (x == ("__debug__" : Str)) = false := by decide)
    (hcd : (x == ("__classdict__" : Str)) = false := by decide) : DE X W (.Compare (.Name x p) [op] [eb] pos) (eBinO g i fb) := by
  obtain ⟨r, ho, hr⟩ := ho
  exact PE.wk (pe_cmpR ho (pe_var hN hv hd hcd) hb hm) (binO_rd hr)
/-- data as a truth value -/
def asB : D → Option Bool
  | .bool b => some b
  | _ => none
def bOf (f : EM D) : EM Bool := eBind f fun d => eOpt (asB d)
theorem bof_rd {f : EM D} (σ : L2.St) (H : Hp) (Q : Bool → Hp → Prop) (q : tB' (gx X W) (bOf f) σ H Q) : tD (gx X W) f σ H fun x H' => ∃ k, x = .bl k ∧ Q k H' := by
  obtain ⟨S, Z, F, h, q⟩ := q
  refine ⟨S, Z, F, h, (Go.bind q).mono fun a S1 c1 s1 h1 q1 x rx => ?_⟩
  obtain ⟨d, e, k⟩ := Go.opt q1
  cases a with
  | bool b =>
    cases rx
    cases e
    exact ⟨_, rfl, k c1 (Stp.refl _) h1⟩
  | _ => cases e
theorem dt_cmp {op : CmpOp} {g : D → D → Option D} {ea eb : Expr} {fa fb : EM D} {pos : Pos} (ho : OpD X W (compareOp op) g) (ha : DE X W ea fa) (hb : DL X W eb fb) (hm : behindInMarks op eb = false) : DT X W (.Compare ea [op] [eb] pos) (bOf (eBin g fa fb)) := by
  obtain ⟨r, ho, hr⟩ := ho
  exact PT.wk (pt_cmpR ho ha hb hm) fun σ H Q q => bin_rd (ea := ea) (eb := eb) hr σ H _ (bof_rd σ H Q q)
theorem dt_cmpO {op : CmpOp} {g : D → D → Option D} (i : Nat) {x : Str} {p : Pos} {eb : Expr} {fb : EM D} {pos : Pos} (ho : OpD X W (compareOp op) g) (hb : DE X W eb fb) (hm : behindInMarks op eb = false) (hN : X.N[i]? = some x := by rfl) (hv : Vis X.env.scope x := by first | exact Or.inl rfl | exact Or.inr (Or.inl rfl) | exact Or.inr (Or.inr rfl)) (hd : (x == ("__debug__" : Str)) = false := by decide)
    (hcd : (x == ("__classdict__" : Str)) = false := by decide) : DT X W (.Compare (.Name x p) [op] [eb] pos) (bOf (eBinO g i fb)) := by
  obtain ⟨r, ho, hr⟩ := ho
  exact PT.wk (pt_cmpR ho (pe_var hN hv hd hcd) hb hm) fun σ H Q q => binO_rd hr σ H _ (bof_rd σ H Q q)
theorem dt_val {e : Expr} {f : EM D} (h : DE X W e f) (he : ∀ whole, isTrue e X.env whole = (do let v ← whole; standAt e.pos; holding [v] (truthy v)) := by intro _; rfl) : DT X W e (bOf f) :=
  PT.wk (pt_val h he) fun σ H Q q => bof_rd σ H Q q
/-- and, or, not -/
def bAnd (f g : EM Bool) : EM Bool := eBind f fun b => if b then g else eRet false
def bOr (f g : EM Bool) : EM Bool := eBind f fun b => if b then eRet true else g
def bNot (f : EM Bool) : EM Bool := eBind f fun b => eRet (!b)
def DW (X : Cx) (W : WX) (e : Expr) (f : EM Bool) : Prop := PW X e (tB' (gx X W) f)
variable {a b : Expr} {rest : List Expr} {fa fb : EM Bool} {pos : Pos}
theorem dw_and1 (ha : DT X W a fa) : DW X W (.BoolOp .And [a] pos) fa := pw_and1 ha
theorem dw_or1 (ha : DT X W a fa) : DW X W (.BoolOp .Or [a] pos) fa := pw_or1 ha
theorem dw_and (ha : DT X W a fa) (hb : DW X W (.BoolOp .And (b :: rest) pos) fb) : DW X W (.BoolOp .And (a :: b :: rest) pos) (bAnd fa fb) := by
  refine PW.wk (pw_and ha hb) fun σ H Q q => ?_
  obtain ⟨S, Z, F, h, q⟩ := q
  refine ⟨S, Z, F, h, (Go.bind q).mono fun k S1 c1 s1 h1 q1 => ?_⟩
  cases k with
  | true => exact ⟨S1, c1.Z, c1.F, h1, q1⟩
  | false => exact q1 _ (Stp.refl _) h1
theorem dw_or (ha : DT X W a fa) (hb : DW X W (.BoolOp .Or (b :: rest) pos) fb) : DW X W (.BoolOp .Or (a :: b :: rest) pos) (bOr fa fb) := by
  refine PW.wk (pw_or ha hb) fun σ H Q q => ?_
  obtain ⟨S, Z, F, h, q⟩ := q
  refine ⟨S, Z, F, h, (Go.bind q).mono fun k S1 c1 s1 h1 q1 => ?_⟩
  cases k with
  | false => exact ⟨S1, c1.Z, c1.F, h1, q1⟩
  | true => exact q1 _ (Stp.refl _) h1
theorem dt_w {e : Expr} {f : EM Bool} (h : DW X W e f) : DT X W e f := PW.pt h
theorem dt_not (ha : DT X W a fa) : DT X W (.UnaryOp .Not a pos) (bNot fa) := by
  refine PT.wk (pt_not ha) fun σ H Q q => ?_
  obtain ⟨S, Z, F, h, q⟩ := q
  exact ⟨S, Z, F, h, (Go.bind q).mono fun k S1 c1 s1 h1 q1 => q1 _ (Stp.refl _) h1⟩
/-- .. as values -/
def eAnd (f g : EM D) : EM D := eBind f fun d => match d with | .bool true => g | .bool false => eRet (.bool false) | _ => fun _ => .bad
def eOr (f g : EM D) : EM D := eBind f fun d => match d with | .bool true => eRet (.bool true) | .bool false => g | _ => fun _ => .bad
def eNot (f : EM D) : EM D := eBind f fun d => match d with | .bool b => eRet (.bool (!b)) | _ => fun _ => .bad
variable {ga gb : EM D}
theorem de_one {op} (h : DE X W a ga) : DE X W (.BoolOp op [a] pos) ga := pe_one h
theorem de_and (ha : DE X W a ga) (hb : DE X W (.BoolOp .And (b :: rest) pos) gb) : DE X W (.BoolOp .And (a :: b :: rest) pos) (eAnd ga gb) := by
  refine PE.wk (pe_and ha hb) fun σ H Q q => ?_
  obtain ⟨S, Z, F, h, q⟩ := q
  refine ⟨S, Z, F, h, (Go.bind q).mono fun k S1 c1 s1 h1 q1 x rx => ?_⟩
  cases k with
  | bool k =>
    cases rx
    refine ⟨_, rfl, ?_⟩
    cases k with
    | true => exact ⟨S1, c1.Z, c1.F, h1, q1⟩
    | false => exact q1 _ (Stp.refl _) h1 _ (.bl _)
  | _ => exact q1.elim
theorem de_or (ha : DE X W a ga) (hb : DE X W (.BoolOp .Or (b :: rest) pos) gb) : DE X W (.BoolOp .Or (a :: b :: rest) pos) (eOr ga gb) := by
  refine PE.wk (pe_or ha hb) fun σ H Q q => ?_
  obtain ⟨S, Z, F, h, q⟩ := q
  refine ⟨S, Z, F, h, (Go.bind q).mono fun k S1 c1 s1 h1 q1 x rx => ?_⟩
  cases k with
  | bool k =>
    cases rx
    refine ⟨_, rfl, ?_⟩
    cases k with
    | false => exact ⟨S1, c1.Z, c1.F, h1, q1⟩
    | true => exact q1 _ (Stp.refl _) h1 _ (.bl _)
  | _ => exact q1.elim
theorem de_not (ha : DE X W a ga) : DE X W (.UnaryOp .Not a pos) (eNot ga) := by
  refine PE.wk (pe_not ha) fun σ H Q q => ?_
  obtain ⟨S, Z, F, h, q⟩ := q
  refine ⟨S, Z, F, h, (Go.bind q).mono fun k S1 c1 s1 h1 q1 x rx => ?_⟩
  cases k with
  | bool k =>
    cases rx
    exact ⟨_, rfl, q1 _ (Stp.refl _) h1 _ (.bl _)⟩
  | _ => exact q1.elim
/-- a if t else b -/
def eIf (t : EM Bool) (f g : EM D) : EM D := eBind t fun b => if b then f else g
theorem de_if {c : Expr} (hc : DT X W c fa) (ha : DE X W a ga) (hb : DE X W b gb) : DE X W (.IfExp c a b pos) (eIf fa ga gb) := by
  refine PE.wk (pe_ifExp hc ha hb) fun σ H Q q => ?_
  obtain ⟨S, Z, F, h, q⟩ := q
  refine ⟨S, Z, F, h, (Go.bind q).mono fun k S1 c1 s1 h1 q1 => ?_⟩
  cases k with
  | true => exact ⟨S1, c1.Z, c1.F, h1, q1⟩
  | false => exact ⟨S1, c1.Z, c1.F, h1, q1⟩

/-! ### argument lists, displays -/
def aNil : EM (List D) := eRet []
def aCons (f : EM D) (g : EM (List D)) : EM (List D) := eBind f fun d => eBind g fun ds => eRet (d :: ds)
theorem da_nil : DA X W [] aNil := by
  refine PA.wk pa_nil fun σ H Q q => ?_
  obtain ⟨S, Z, F, h, q⟩ := q
  exact q _ (Stp.refl _) h [] .nil
theorem da_cons {e : Expr} {es : List Expr} {f : EM D} {g : EM (List D)} (ha : DE X W e f) (hr : DA X W es g) (hs : starEach (e :: es) X.env = (false, eval e X.env) :: starEach es X.env := by rfl) : DA X W (e :: es) (aCons f g) := by
  refine PA.wk (pa_cons ha hr hs) fun σ H Q q => ?_
  obtain ⟨S, Z, F, h, q⟩ := q
  refine ⟨S, Z, F, h, (Go.bind q).mono fun d S1 c1 s1 h1 q1 x rx => ?_⟩
  refine ⟨S1, c1.Z, c1.F, h1, (Go.bind q1).mono fun ds S2 c2 s2 h2 q2 xs rs => ?_⟩
  exact q2 _ (Stp.refl _) h2 (x :: xs) (.cons (rx.mono s2.z) rs)
def small (n : Nat) : Bool := decide (n ≤ sizeLine)
def eTup (f : EM (List D)) : EM D := eBind f fun ds => if small ds.length then eRet (.tuple ds) else fun _ => .bad
def eLst (f : EM (List D)) : EM D := eBind f fun ds => if small ds.length then eRet (.list ds) else fun _ => .bad
theorem Holds.layL {S : List Slot} {σ : L2.St} {c : Cfg} {K : PySem.W.Frag} {xs : List V} {ds : List D} (h : Holds K S σ c) {p : Addr} (hp : c.H p = none) (r : RpA K c.Z xs ds) :
    Stp c (c.lay p (.lst xs)) ∧ Holds K S σ (c.lay p (.lst xs)) ∧ Rp K (c.lay p (.lst xs)).Z (.ref p) (.list ds) := by
  obtain ⟨s, q⟩ := h.lay (o := .lst xs) hp
  exact ⟨s, q, .lst upd_same (r.mono s.z)⟩
theorem Holds.layT {S : List Slot} {σ : L2.St} {c : Cfg} {K : PySem.W.Frag} {xs : List V} {ds : List D} (h : Holds K S σ c) {p : Addr} (hp : c.H p = none) (r : RpA K c.Z xs ds) :
    Stp c (c.lay p (.tup xs)) ∧ Holds K S σ (c.lay p (.tup xs)) ∧ Rp K (c.lay p (.tup xs)).Z (.ref p) (.tuple ds) := by
  obtain ⟨s, q⟩ := h.lay (o := .tup xs) hp
  exact ⟨s, q, .tup upd_same (r.mono s.z)⟩
theorem de_tup {es : List Expr} {x1} {f : EM (List D)} (ha : DA X W es f) : DE X W (.Tuple es x1 pos) (eTup f) := by
  refine PE.wk (pe_tup ha) fun σ H Q q => ?_
  obtain ⟨S, Z, F, h, q⟩ := q
  refine ⟨S, Z, F, h, (Go.bind q).mono fun ds S1 c1 s1 h1 q1 xs rs => ?_⟩
  by_cases hs : small ds.length = true
  · rw [if_pos hs] at q1
    refine ⟨by rw [rs.length]; exact of_decide_eq_true hs, fun p hp => ?_⟩
    obtain ⟨s2, h2, r2⟩ := h1.layT hp rs
    exact q1 _ s2 h2 _ r2
  · rw [if_neg hs] at q1
    exact q1.elim
theorem de_lst {es : List Expr} {f : EM (List D)} (ha : DA X W es f) : DE X W (.List es pos) (eLst f) := by
  refine PE.wk (pe_lst ha) fun σ H Q q => ?_
  obtain ⟨S, Z, F, h, q⟩ := q
  refine ⟨S, Z, F, h, (Go.bind q).mono fun ds S1 c1 s1 h1 q1 xs rs => ?_⟩
  by_cases hs : small ds.length = true
  · rw [if_pos hs] at q1
    refine ⟨by rw [rs.length]; exact of_decide_eq_true hs, fun p hp => ?_⟩
    obtain ⟨s2, h2, r2⟩ := h1.layL hp rs
    exact q1 _ s2 h2 _ r2
  · rw [if_neg hs] at q1
    exact q1.elim
end
end FW

/-! FwC: what is walked, targets, comprehensions, statements, loops. -/
namespace FW
open PySem PySem.Spec L2
open PyProof.Rows hiding St
abbrev Sg := L2.St
section
variable {X : Cx} {W : WX} {pos : Pos}

/-! ### what is walked -/
structure ItOk (K : PySem.W.Frag) (Z0 : Hp) (J : It) (ds : List D) : Prop where
  go : ∀ (i : Nat) (c : Cfg) (S : List Slot) (σ : Sg), i < ds.length → Same Z0 c.Z → Holds K S σ c → J.go i c.H ∧
    ∀ x H', J.yld i c.H x H' → ∃ c' d, c'.H = H' ∧ ds[i]? = some d ∧ Stp c c' ∧ Holds K S σ c' ∧ Rp K c'.Z x d
  stop : ∀ (i : Nat) (c : Cfg) (S : List Slot) (σ : Sg), ds.length ≤ i → Same Z0 c.Z → Holds K S σ c → J.stop i c.H
def tI (G : Gx) (m : EM (List D)) : TI := fun σ H R => ∃ S Z F, Holds G.K S σ ⟨Z, H, F⟩ ∧ Go G σ ⟨Z, H, F⟩ (m S) (fun ds _ c' => ∀ J, ItOk G.K c'.Z J ds → R J c'.H)
def DI (X : Cx) (W : WX) (tg iter : Expr) (m : EM (List D)) : Prop := PI X tg iter (tI (gx X W) m)
theorem PI.wk {tg iter : Expr} {t t' : TI} (h : PI X tg iter t) (i : ∀ σ H R, t' σ H R → t σ H R) : PI X tg iter t' := ⟨fun pins s σ H R I q => h.run pins s σ H R I (i _ _ _ q)⟩
theorem ItOk.rng (K : PySem.W.Frag) (Z0 : Hp) (lo : Int) (n : Nat) : ItOk K Z0 (Itr lo n) ((List.range n).map fun i => PyData.int (lo + (i : Nat))) where
  go := fun i c S σ hi _ h => by
    rw [List.length_map, List.length_range] at hi
    refine ⟨hi, fun x H' y => ?_⟩
    obtain ⟨e1, e2⟩ := y
    subst e1 e2
    refine ⟨c, _, rfl, ?_, Stp.refl _, h, .int _⟩
    rw [List.getElem?_map, List.getElem?_range hi]
    rfl
  stop := fun i c S σ hi _ _ => by
    rw [List.length_map, List.length_range] at hi
    exact hi
theorem ItOk.rngC (K : PySem.W.Frag) (Z0 : Hp) (lo st : Int) (n : Nat) : ItOk K Z0 (Itc lo st n) ((List.range n).map fun i => PyData.int (lo + (i : Nat) * st)) where
  go := fun i c S σ hi _ h => by
    rw [List.length_map, List.length_range] at hi
    refine ⟨hi, fun x H' y => ?_⟩
    obtain ⟨e1, e2⟩ := y
    subst e1 e2
    refine ⟨c, _, rfl, ?_, Stp.refl _, h, .int _⟩
    rw [List.getElem?_map, List.getElem?_range hi]
    rfl
  stop := fun i c S σ hi _ _ => by
    rw [List.length_map, List.length_range] at hi
    exact hi
theorem ItOk.lst {K : PySem.W.Frag} {Z0 : Hp} {a : Addr} {xs : List V} {ds : List D} (ha : Z0 a = some (.lst xs)) (r : RpA K Z0 xs ds) : ItOk K Z0 (Itl K a) ds where
  go := fun i c S σ hi sm h => by
    have hq : SqL K c.H a xs := SqL.of (h.zh _ _ (sm _ _ ha))
    obtain ⟨v, e, rv⟩ := r.get (List.getElem?_eq_getElem hi)
    refine ⟨⟨xs, v, hq, e⟩, fun x H' y => ?_⟩
    obtain ⟨e1, y⟩ := y
    subst e1
    have ev := Option.some.inj ((y xs hq).symm.trans e)
    subst ev
    exact ⟨c, _, rfl, List.getElem?_eq_getElem hi, Stp.refl _, h, rv.mono sm⟩
  stop := fun i c S σ hi sm h => ⟨xs, SqL.of (h.zh _ _ (sm _ _ ha)), by rw [r.length]; exact hi⟩
theorem ItOk.tup {K : PySem.W.Frag} {Z0 : Hp} {a : Addr} {xs : List V} {ds : List D} (ha : SqT K Z0 a xs) (r : RpA K Z0 xs ds) : ItOk K Z0 (Itt K a) ds where
  go := fun i c S σ hi sm h => by
    have hq : SqT K c.H a xs := sameT h.zh (sameT sm ha)
    obtain ⟨v, e, rv⟩ := r.get (List.getElem?_eq_getElem hi)
    refine ⟨⟨xs, v, hq, e⟩, fun x H' y => ?_⟩
    obtain ⟨e1, y⟩ := y
    subst e1
    have ev := Option.some.inj ((y xs hq).symm.trans e)
    subst ev
    exact ⟨c, _, rfl, List.getElem?_eq_getElem hi, Stp.refl _, h, rv.mono sm⟩
  stop := fun i c S σ hi sm h => ⟨xs, sameT h.zh (sameT sm ha), by rw [r.length]; exact hi⟩
/-- the items of a list; of a tuple -/
def itemsL : D → Option (List D)
  | .list ds => some ds
  | _ => none
def itemsT : D → Option (List D)
  | .tuple ds => some ds
  | _ => none
def iL (f : EM D) : EM (List D) := eBind f fun d => eOpt (itemsL d)
def iT (f : EM D) : EM (List D) := eBind f fun d => eOpt (itemsT d)
theorem di_list {tg e : Expr} {f : EM D} (he : DE X W e f) : DI X W tg e (iL f) := by
  refine PI.wk (pi_list he) fun σ H R q => ?_
  obtain ⟨S, Z, F, h, q⟩ := q
  refine ⟨S, Z, F, h, (Go.bind q).mono fun d S1 c1 s1 h1 q1 x rx => ?_⟩
  obtain ⟨ds, e, k⟩ := Go.opt q1
  cases d with
  | list ds' =>
    cases e
    cases rx with
    | lst r1 r2 => exact ⟨_, rfl, ⟨_, SqL.of (h1.zh _ _ r1)⟩, k c1 (Stp.refl _) h1 _ (ItOk.lst r1 r2)⟩
  | _ => cases e
theorem di_tup {tg e : Expr} {f : EM D} (he : DE X W e f) : DI X W tg e (iT f) := by
  refine PI.wk (pi_tup he) fun σ H R q => ?_
  obtain ⟨S, Z, F, h, q⟩ := q
  refine ⟨S, Z, F, h, (Go.bind q).mono fun d S1 c1 s1 h1 q1 x rx => ?_⟩
  obtain ⟨ds, e, k⟩ := Go.opt q1
  cases d with
  | tuple ds' =>
    cases e
    cases rx with
    | tup r1 r2 => exact ⟨_, rfl, ⟨_, sameT h1.zh (SqT.of r1)⟩, k c1 (Stp.refl _) h1 _ (ItOk.tup (SqT.of r1) r2)⟩
  | _ => cases e
def big62 (i : Int) : Bool := decide (-(2 ^ 62) ≤ i) && decide (i < 2 ^ 62)
theorem big62_ok {i : Int} (h : big62 i = true) : -(2 ^ 62) ≤ i ∧ i < 2 ^ 62 := by
  unfold big62 at h
  rw [Bool.and_eq_true] at h
  exact ⟨of_decide_eq_true h.1, of_decide_eq_true h.2⟩
def intsD (lo : Int) (n : Nat) : List D := (List.range n).map fun i => PyData.int (lo + (i : Nat))
def intsC (lo st : Int) (n : Nat) : List D := (List.range n).map fun i => PyData.int (lo + (i : Nat) * st)
def rng1 : List D → Option (List D)
  | [.int j] => if big62 j then some (intsD 0 j.toNat) else none
  | _ => none
def rng2 : List D → Option (List D)
  | [.int i, .int j] => if big62 i && big62 j then some (intsD i (j - i).toNat) else none
  | _ => none
def iR1 (f : EM (List D)) : EM (List D) := eBind f fun ds => eOpt (rng1 ds)
def iR2 (f : EM (List D)) : EM (List D) := eBind f fun ds => eOpt (rng2 ds)
theorem RpA.i1 {K : PySem.W.Frag} {Z : Hp} {vs : List V} {i : Int} (h : RpA K Z vs [.int i]) : vs = [.int i] := by
  cases h with
  | cons h1 h2 =>
    cases h1
    cases h2
    rfl
theorem RpA.i2 {K : PySem.W.Frag} {Z : Hp} {vs : List V} {i j : Int} (h : RpA K Z vs [.int i, .int j]) : vs = [.int i, .int j] := by
  cases h with
  | cons h1 h2 =>
    cases h1
    rw [RpA.i1 h2]
theorem RpA.i3 {K : PySem.W.Frag} {Z : Hp} {vs : List V} {i j k : Int} (h : RpA K Z vs [.int i, .int j, .int k]) : vs = [.int i, .int j, .int k] := by
  cases h with
  | cons h1 h2 =>
    cases h1
    rw [RpA.i2 h2]
theorem rng1_some {ds es : List D} (h : rng1 ds = some es) : ∃ j, ds = [.int j] ∧ big62 j = true ∧ es = intsD 0 j.toNat := by
  unfold rng1 at h
  split at h
  · split at h
    · rename_i j hb
      exact ⟨j, rfl, hb, (Option.some.inj h).symm⟩
    · cases h
  · cases h
theorem rng2_some {ds es : List D} (h : rng2 ds = some es) : ∃ i j, ds = [.int i, .int j] ∧ big62 i = true ∧ big62 j = true ∧ es = intsD i (j - i).toNat := by
  unfold rng2 at h
  split at h
  · split at h
    · rename_i i j hb
      rw [Bool.and_eq_true] at hb
      exact ⟨i, j, rfl, hb.1, hb.2, (Option.some.inj h).symm⟩
    · cases h
  · cases h
theorem di_range1 {tg a : Expr} {f : EM (List D)} {p pos : Pos} (hg : Gl X "range") (hm : X.mg "range" = none) (ha : DA X W [a] f) (hs : starEach [a] X.env = [(false, eval a X.env)] := by rfl) : DI X W tg (.Call (.Name "range" p) [a] [] pos) (iR1 f) := by
  refine PI.wk (pi_range1 hg hm ha hs) fun σ H R q => ?_
  obtain ⟨S, Z, F, h, q⟩ := q
  refine ⟨S, Z, F, h, (Go.bind q).mono fun ds S1 c1 s1 h1 q1 vs rs => ?_⟩
  obtain ⟨es, e, k⟩ := Go.opt q1
  obtain ⟨j, rfl, hb, rfl⟩ := rng1_some e
  obtain ⟨b1, b2⟩ := big62_ok hb
  refine ⟨j, rs.i1, b1, b2, k c1 (Stp.refl _) h1 _ (ItOk.rng _ _ 0 j.toNat)⟩
theorem di_range2 {tg a b : Expr} {f : EM (List D)} {p pos : Pos} (hg : Gl X "range") (hm : X.mg "range" = none) (ha : DA X W [a, b] f) (hs : starEach [a, b] X.env = [(false, eval a X.env), (false, eval b X.env)] := by rfl) (hs2 : starEach [b] X.env = [(false, eval b X.env)] := by rfl) :
    DI X W tg (.Call (.Name "range" p) [a, b] [] pos) (iR2 f) := by
  refine PI.wk (pi_range2 hg hm ha hs hs2) fun σ H R q => ?_
  obtain ⟨S, Z, F, h, q⟩ := q
  refine ⟨S, Z, F, h, (Go.bind q).mono fun ds S1 c1 s1 h1 q1 vs rs => ?_⟩
  obtain ⟨es, e, k⟩ := Go.opt q1
  obtain ⟨i, j, rfl, hb, hb', rfl⟩ := rng2_some e
  obtain ⟨b1, b2⟩ := big62_ok hb
  obtain ⟨b3, b4⟩ := big62_ok hb'
  refine ⟨i, j, rs.i2, ⟨b1, b2, b3, b4⟩, k c1 (Stp.refl _) h1 _ (ItOk.rng _ _ i _)⟩

/-! ### targets -/
abbrev Tg := D → List Slot → Option (List Slot)
def Only (is : List Nat) (σ σ' : Sg) : Prop := ∀ vs, (∀ i ∈ is, i ∈ vs) → wipe σ' vs = wipe σ vs
def tG (G : Gx) (is : List Nat) (g : Tg) : TG := fun v σ H Q => ∃ S Z F d S', Holds G.K S σ ⟨Z, H, F⟩ ∧ Rp G.K Z v d ∧ g d S = some S' ∧
  ∀ σ' c', Stp ⟨Z, H, F⟩ c' → Holds G.K S' σ' c' → Only is σ σ' → Q σ' c'.H
def DG (X : Cx) (W : WX) (tg : Expr) (is : List Nat) (g : Tg) : Prop := PG X tg (tG (gx X W) is g)
theorem PG.wk {tg : Expr} {t t' : TG} (h : PG X tg t) (i : ∀ v σ H Q, t' v σ H Q → t v σ H Q) : PG X tg t' := ⟨fun pins s σ H v u Q I r q => h.run pins s σ H v u Q I r (i _ _ _ _ q)⟩
theorem wipe_set {σ : Sg} {i : Nat} {x : Option V} : ∀ {vs : List Nat}, i ∈ vs → wipe (σ.set i x) vs = wipe σ vs := by
  intro vs
  induction vs with
  | nil => intro h; simp at h
  | cons v vs ih =>
    intro h
    unfold wipe
    by_cases hm : i ∈ vs
    · rw [ih hm]
    · rcases List.mem_cons.mp h with e | e
      · subst e
        have key : ∀ (ws : List Nat), i ∉ ws → wipe (σ.set i x) ws = (wipe σ ws).set i x := by
          intro ws
          induction ws with
          | nil => intro _; rfl
          | cons w ws ih2 =>
            intro hn
            simp only [List.mem_cons, not_or] at hn
            unfold wipe
            rw [ih2 hn.2, List.set_comm _ _ hn.1]
        rw [key vs hm, List.set_set]
      · exact absurd e hm
theorem Only.set (σ : Sg) (i : Nat) (x : Option V) : Only [i] σ (σ.set i x) := fun vs h => wipe_set (h i (by simp))
theorem Only.refl (σ : Sg) (is : List Nat) : Only is σ σ := fun _ _ => rfl
theorem Only.trans {σ σ1 σ2 : Sg} {is js : List Nat} (a : Only is σ σ1) (b : Only js σ1 σ2) : Only (is ++ js) σ σ2 := fun vs h =>
  (b vs fun i m => h i (List.mem_append_right _ m)).trans (a vs fun i m => h i (List.mem_append_left _ m))
/-- data into a slot -/
theorem Holds.setD {K : PySem.W.Frag} {S : List Slot} {σ : Sg} {c : Cfg} {i : Nat} {v : V} {d : D} (h : Holds K S σ c) (hi : i < S.length) (r : Rp K c.Z v d) :
    ∃ F', Stp c ⟨c.Z, c.H, F'⟩ ∧ Holds K (S.set i (.dat d)) (σ.set i (some v)) ⟨c.Z, c.H, F'⟩ := by
  obtain ⟨A, Fi, B, x, e1, e2, _, up⟩ := h.l.at (List.getElem?_eq_getElem hi)
  have sub : ∀ b ∈ A ++ B, b ∈ c.F := fun b m => by
    rw [e1]
    simp at m ⊢
    rcases m with m | m <;> simp [m]
  refine ⟨A ++ B, ⟨Same.refl _, fun _ _ q _ => q, fun _ o q => ⟨o, q⟩, fun _ _ q => .inl q, fun b m => .inl (sub b m)⟩, ⟨?_, ?_, fun a m => h.zf a (sub a m), h.zh⟩⟩
  · exact up ⟨c.Z, c.H, A ++ B⟩ (.dat d) (some v) [] (Same.refl _) (fun _ _ => rfl) ⟨rfl, v, rfl, r⟩
  · have nd := h.nd
    rw [e1] at nd
    show (A ++ B).Nodup
    simp only [List.nodup_append, List.mem_append] at nd ⊢
    grind
def gN (i : Nat) : Tg := fun d S => if i < S.length then some (S.set i (.dat d)) else none
theorem dg_name {x : Str} {pos : Pos} (i : Nat) (hN : X.N.Nodup) (hi : X.N[i]? = some x) (hx : Loc X.env.scope x) (hf : X.fn x = true ∨ X.env.scope.names.lookup x = some .local := by first | exact .inl rfl | exact .inr rfl | assumption) : DG X W (.Name x pos) [i] (gN i) := by
  refine PG.wk (pg_name hN hi hx hf) fun v σ H Q q => ?_
  obtain ⟨S, Z, F, d, S', h, r, e, q⟩ := q
  unfold gN at e
  split at e
  · rename_i hl
    cases e
    obtain ⟨F', st, h'⟩ := h.setD hl r
    exact q _ _ st h' (Only.set _ _ _)
  · cases e
def gNs : List Nat → List D → List Slot → Option (List Slot)
  | [], [], S => some S
  | i :: is, d :: ds, S => (gN i d S).bind fun S' => gNs is ds S'
  | _, _, _ => none
def DGs (X : Cx) (W : WX) (tgs : List Expr) (is : List Nat) (t : List D → List Slot → Option (List Slot)) : Prop :=
  PGs X tgs (fun vs σ H Q => ∃ S Z F ds S', Holds X.K S σ ⟨Z, H, F⟩ ∧ RpA X.K Z vs ds ∧ t ds S = some S' ∧ ∀ σ' c', Stp ⟨Z, H, F⟩ c' → Holds X.K S' σ' c' → Only is σ σ' → Q σ' c'.H)
theorem PGs.wk {tg : List Expr} {t t' : TGs} (h : PGs X tg t) (i : ∀ v σ H Q, t' v σ H Q → t v σ H Q) : PGs X tg t' := ⟨fun pins s σ H v u Q I r q => h.run pins s σ H v u Q I r (i _ _ _ _ q)⟩
def gsNil : List D → List Slot → Option (List Slot) := fun ds S => match ds with | [] => some S | _ => none
def gsCons (g : Tg) (t : List D → List Slot → Option (List Slot)) : List D → List Slot → Option (List Slot) := fun ds S => match ds with | d :: ds => (g d S).bind fun S' => t ds S' | _ => none
theorem dgs_nil : DGs X W [] [] gsNil := by
  refine PGs.wk pgs_nil fun vs σ H Q q => ?_
  obtain ⟨S, Z, F, ds, S', h, r, e, q⟩ := q
  cases ds with
  | nil =>
    cases r
    cases e
    exact ⟨rfl, q _ _ (Stp.refl _) h (Only.refl _ _)⟩
  | cons _ _ => cases e
theorem dgs_cons {e : Expr} {es : List Expr} {is js : List Nat} {g : Tg} {t : List D → List Slot → Option (List Slot)} (h1 : DG X W e is g) (h2 : DGs X W es js t)
    (hs : (assignEach (e :: es) X.env).map (·.2) = assign e X.env :: (assignEach es X.env).map (·.2) := by rfl) : DGs X W (e :: es) (is ++ js) (gsCons g t) := by
  refine PGs.wk (pgs_cons h1 h2 hs) fun vs σ H Q q => ?_
  obtain ⟨S, Z, F, ds, S', h, r, e, q⟩ := q
  cases ds with
  | nil => cases e
  | cons d ds =>
    cases r with
    | cons r1 r2 =>
      have e' : (g d S).bind (fun S' => t ds S') = some S' := e
      cases hg : g d S with
      | none => rw [hg] at e'; cases e'
      | some S1 =>
        rw [hg] at e'
        refine ⟨_, _, rfl, S, Z, F, d, S1, h, r1, hg, fun σ1 c1 st h1 o1 => ?_⟩
        exact ⟨S1, c1.Z, c1.F, ds, S', h1, r2.mono st.z, e', fun σ2 c2 st2 h2 o2 => q σ2 c2 (st.trans st2) h2 (o1.trans o2)⟩
def gT (t : List D → List Slot → Option (List Slot)) (n : Nat) : Tg := fun d S => match d with | .tuple ds => if ds.length = n then t ds S else none | _ => none
def gL (t : List D → List Slot → Option (List Slot)) (n : Nat) : Tg := fun d S => match d with | .list ds => if ds.length = n then t ds S else none | _ => none
theorem dg_tup {es : List Expr} {k : Nat} {is : List Nat} {t : List D → List Slot → Option (List Slot)} {n : Nat} (hc : X.calm = true) (h : DGs X W es is t)
    (hn : (assignEach es X.env).length = n := by rfl) (hst : (assignEach es X.env).findIdx? (·.1) = none := by rfl) : DG X W (.Tuple es k pos) is (gT t n) := by
  refine PG.wk (pg_tup hc h hn hst) fun v σ H Q q => ?_
  obtain ⟨S, Z, F, d, S', h, r, e, q⟩ := q
  cases d with
  | tuple ds =>
    have e' : (if ds.length = n then t ds S else none) = some S' := e
    split at e'
    · rename_i hl
      cases r with
      | tup r1 r2 => exact ⟨_, _, rfl, sameT h.zh (SqT.of r1), by rw [r2.length]; exact hl, S, Z, F, ds, S', h, r2, e', q⟩
    · cases e'
  | _ => cases e
theorem dg_unl {es : List Expr} {k : Nat} {is : List Nat} {t : List D → List Slot → Option (List Slot)} {n : Nat} (hc : X.calm = true) (h : DGs X W es is t)
    (hn : (assignEach es X.env).length = n := by rfl) (hst : (assignEach es X.env).findIdx? (·.1) = none := by rfl) : DG X W (.Tuple es k pos) is (gL t n) := by
  refine PG.wk (pg_unl hc h hn hst) fun v σ H Q q => ?_
  obtain ⟨S, Z, F, d, S', h, r, e, q⟩ := q
  cases d with
  | list ds =>
    have e' : (if ds.length = n then t ds S else none) = some S' := e
    split at e'
    · rename_i hl
      cases r with
      | lst r1 r2 => exact ⟨_, _, rfl, SqL.of (h.zh _ _ r1), by rw [r2.length]; exact hl, S, Z, F, ds, S', h, r2, e', q⟩
    · cases e'
  | _ => cases e

/-! ### statements -/
def DS (X : Cx) (W : WX) (st : Stmt) (f : SM) : Prop := PS X st (tS (gx X W) f)
def DSs (X : Cx) (W : WX) (st : List Stmt) (f : SM) : Prop := PSs X st (tS (gx X W) f)
def sNx : SM := fun S => .nx S
def sSeq (f g : SM) : SM := fun S => match f S with
  | .nx S' => g S'
  | o => o
theorem ds_nil : DSs X W [] sNx := by
  refine PSs.wk pss_nil fun Q σ H q => ?_
  obtain ⟨S, Z, F, h, q⟩ := q
  exact q _ _ (Stp.refl _) h
theorem ds_cons {st : Stmt} {rest : List Stmt} {f g : SM} (h1 : DS X W st f) (h2 : DSs X W rest g) : DSs X W (st :: rest) (sSeq f g) := by
  refine PSs.wk (pss_cons h1 h2) fun Q σ H q => ?_
  obtain ⟨S, Z, F, h, q⟩ := q
  refine ⟨S, Z, F, h, ?_⟩
  unfold sSeq at q
  cases e : f S with
  | nx S' =>
    rw [e] at q
    exact fun σ' c' st h' => ⟨S', c'.Z, c'.F, h', GoS.step q st⟩
  | rt d S' => rw [e] at q; exact q
  | bk S' => rw [e] at q; exact q
  | ct S' => rw [e] at q; exact q
  | ex x S' => rw [e] at q; exact q
  | bad => rw [e] at q; exact q.elim
def sPass : SM := fun S => .nx S
def sBrk : SM := fun S => .bk S
def sCnt : SM := fun S => .ct S
theorem ds_pass : DS X W (.Pass pos) sPass := PS.wk ps_pass fun Q σ H ⟨S, Z, F, h, q⟩ => q _ _ (Stp.refl _) h
theorem ds_break : DS X W (.Break pos) sBrk := PS.wk ps_break fun Q σ H ⟨S, Z, F, h, q⟩ => q _ _ (Stp.refl _) h
theorem ds_continue : DS X W (.Continue pos) sCnt := PS.wk ps_continue fun Q σ H ⟨S, Z, F, h, q⟩ => q _ _ (Stp.refl _) h
/-- an expression's end becomes a statement's -/
def sOf {α : Type} (m : EM α) (k : α → List Slot → Out) : SM := fun S => match m S with
  | .ok a S' => k a S'
  | .ex e S' => .ex e S'
  | .bad => .bad
def sExpr (f : EM D) : SM := sOf f fun _ S => .nx S
def sRet (f : EM D) : SM := sOf f fun d S => .rt d S
def sRetN : SM := fun S => .rt .none S
theorem ds_expr {e : Expr} {f : EM D} (he : DE X W e f) (hs : swapsWith e none pos.line X.env = pure false := by rfl) : DS X W (.Expr e pos) (sExpr f) := by
  refine PS.wk (ps_expr he hs) fun Q σ H q => ?_
  obtain ⟨S, Z, F, h, q⟩ := q
  exact ⟨S, Z, F, h, Go.toS q fun a S1 c1 s1 h1 q1 v rv => q1 _ _ (Stp.refl _) h1⟩
theorem ds_ret {e : Expr} {f : EM D} (he : DE X W e f) : DS X W (.Return (some e) pos) (sRet f) := by
  refine PS.wk (ps_ret he) fun Q σ H q => ?_
  obtain ⟨S, Z, F, h, q⟩ := q
  exact ⟨S, Z, F, h, Go.toS q fun a S1 c1 s1 h1 q1 v rv => q1 _ _ _ (Stp.refl _) h1 rv⟩
theorem ds_retN : DS X W (.Return none pos) sRetN := PS.wk ps_retN fun Q σ H ⟨S, Z, F, h, q⟩ => q _ _ _ (Stp.refl _) h .non
def sIf (t : EM Bool) (f g : SM) : SM := sOf t fun b S => if b then f S else g S
theorem ds_if {c : Expr} {a b : List Stmt} {t : EM Bool} {f g : SM} (hc : DT X W c t) (ha : DSs X W a f) (hb : DSs X W b g) : DS X W (.If c a b pos) (sIf t f g) := by
  refine PS.wk (ps_if hc ha hb) fun Q σ H q => ?_
  obtain ⟨S, Z, F, h, q⟩ := q
  refine ⟨S, Z, F, h, Go.toS q fun k S1 c1 s1 h1 q1 => ?_⟩
  cases k with
  | true => exact ⟨S1, c1.Z, c1.F, h1, q1⟩
  | false => exact ⟨S1, c1.Z, c1.F, h1, q1⟩
/-- target = value -/
def sAsg (f : EM D) (g : Tg) : SM := sOf f fun d S => match g d S with | some S' => .nx S' | none => .bad
theorem asg_rd {f : EM D} {g : Tg} {is : List Nat} (Q : Ends) (σ : Sg) (H : Hp) (q : tS (gx X W) (sAsg f g) Q σ H) : tAsg (tD (gx X W) f) (tG (gx X W) is g) Q σ H := by
  obtain ⟨S, Z, F, h, q⟩ := q
  refine ⟨S, Z, F, h, Go.toS q fun d S1 c1 s1 h1 q1 v rv => ?_⟩
  cases e : g d S1 with
  | none => rw [e] at q1; exact q1.elim
  | some S2 =>
    rw [e] at q1
    exact ⟨S1, c1.Z, c1.F, d, S2, h1, rv, e, fun σ' c' st h' _ => q1 σ' c' st h'⟩
theorem ds_asg {tg e : Expr} {f : EM D} {is : List Nat} {g : Tg} (he : DE X W e f) (hg : DG X W tg is g) (hs : swapsWithSole [tg] e pos.line X.env = pure false := by rfl) (hw : swappedStores [tg] e X.env = pure none := by rfl)
    (h1 : (assignEach [tg] X.env).map (·.2) = [assign tg X.env] := by rfl) : DS X W (.Assign [tg] e pos) (sAsg f g) := PS.wk (ps_asg he hg hs hw h1) asg_rd
def sSet (i : Nat) (f : EM D) : SM := sAsg f (gN i)
theorem ds_set (i : Nat) {x : Str} {e : Expr} {f : EM D} {pos' : Pos} (hN : X.N.Nodup) (he : DE X W e f) (hi : X.N[i]? = some x := by rfl) (hx : Loc X.env.scope x := by first | exact Or.inl rfl | exact Or.inr rfl) (hs : swapsWith e (some (.Name x pos')) pos.line X.env = pure false := by rfl)
    (hf : X.fn x = true ∨ X.env.scope.names.lookup x = some .local := by first | exact .inl rfl | exact .inr rfl | assumption) : DS X W (.Assign [.Name x pos'] e pos) (sSet i f) := by
  refine PS.wk (ps_set hN hi hx he hs hf) fun Q σ H q => ?_
  obtain ⟨S, Z, F, h, q⟩ := q
  refine ⟨S, Z, F, h, Go.toS q fun d S1 c1 s1 h1 q1 v rv => ?_⟩
  unfold gN at q1
  by_cases hl : i < S1.length
  · rw [if_pos hl] at q1
    obtain ⟨F', st, h'⟩ := h1.setD hl rv
    exact q1 _ ⟨c1.Z, c1.H, F'⟩ st h'
  · rw [if_neg hl] at q1
    exact q1.elim
/-- a, b = x, y -/
def gTwo (i j : Nat) : List D → List Slot → Option (List Slot) := fun ds S => match ds with
  | [a, b] => (gN i a S).bind fun S' => gN j b S'
  | _ => none
def sPar (i j : Nat) (f : EM (List D)) : SM := sOf f fun ds S => match gTwo i j ds S with | some S' => .nx S' | none => .bad
theorem ds_par (i j : Nat) {x y : Str} {a b : Expr} {f : EM (List D)} {px py pt : Pos} {kt k2 pt2} (hc : X.calm = true) (hN : X.N.Nodup) (ha : DA X W [a, b] f) (hij : i ≠ j) (hi : X.N[i]? = some x := by rfl) (hj : X.N[j]? = some y := by rfl)
    (hx : X.env.scope.names.lookup x = some .local := by rfl) (hy : X.env.scope.names.lookup y = some .local := by rfl)
    (hw : swappedStores [.Tuple [.Name x px, .Name y py] kt pt] (.Tuple [a, b] k2 pt2) X.env = pure (some [x, y]) := by rfl)
    (hs : swapsWithSole [.Tuple [.Name x px, .Name y py] kt pt] (.Tuple [a, b] k2 pt2) pos.line X.env = pure false := by rfl) :
    DS X W (.Assign [.Tuple [.Name x px, .Name y py] kt pt] (.Tuple [a, b] k2 pt2) pos) (sPar i j f) := by
  refine PS.wk (ps_par hc hN hi hj hij hx hy ha hw hs) fun Q σ H q => ?_
  obtain ⟨S, Z, F, h, q⟩ := q
  refine ⟨S, Z, F, h, Go.toS q fun ds S1 c1 s1 h1 q1 vs rs => ?_⟩
  match ds, rs with
  | [], _ => exact q1.elim
  | [_], _ => exact q1.elim
  | [d1, d2], .cons r1 (.cons r2 .nil) =>
    refine ⟨_, _, rfl, ?_⟩
    cases e : gTwo i j [d1, d2] S1 with
    | none => rw [e] at q1; exact q1.elim
    | some S2 =>
      rw [e] at q1
      have e' : (gN i d1 S1).bind (fun S' => gN j d2 S') = some S2 := e
      obtain ⟨S3, e1, e2⟩ := Option.bind_eq_some_iff.mp e'
      unfold gN at e1 e2
      split at e1
      · rename_i hl
        cases e1
        split at e2
        · rename_i hl2
          cases e2
          obtain ⟨F', st, h'⟩ := h1.setD hl r1
          obtain ⟨F2, st2, h2⟩ := h'.setD hl2 r2
          exact q1 _ ⟨c1.Z, c1.H, F2⟩ (st.trans st2) h2
        · cases e2
      · cases e1
  | _ :: _ :: _ :: _, _ => exact q1.elim
/-- x op= e for data -/
def sAug (i : Nat) (g : D → D → Option D) (f : EM D) : SM := fun S => match S[i]? with
  | some (.dat a) => sOf f (fun b S' => match g a b with | some d => .nx (S'.set i (.dat d)) | none => .bad) S
  | _ => .bad
def IpD (X : Cx) (op : Operator) (g : D → D → Option D) : Prop := ∃ t : TIp, PIp X op t ∧
  ∀ (x y : V) (a b d : D) (S : List Slot) (σ : Sg) (c : Cfg) (Q : VK), g a b = some d → Holds X.K S σ c → Rp X.K c.Z x a → Rp X.K c.Z y b →
    (∀ c' v, Stp c c' → Holds X.K S σ c' → Rp X.K c'.Z v d → Q v c'.H) → t x y c.H Q
theorem ds_aug (i : Nat) {x : Str} {e : Expr} {f : EM D} {op : Operator} {g : D → D → Option D} {pos' : Pos} (hN : X.N.Nodup) (ho : IpD X op g) (he : DE X W e f) (hi : X.N[i]? = some x := by rfl) (hx : Loc X.env.scope x := by first | exact Or.inl rfl | exact Or.inr rfl)
    (hf : X.fn x = true ∨ X.env.scope.names.lookup x = some .local := by first | exact .inl rfl | exact .inr rfl | assumption) : DS X W (.AugAssign (.Name x pos') op e pos) (sAug i g f) := by
  obtain ⟨t, ho, hr⟩ := ho
  refine PS.wk (ps_aug hN hi hx he ho hf) fun Q σ H q => ?_
  obtain ⟨S, Z, F, h, q⟩ := q
  unfold sAug at q
  split at q
  · rename_i a es
    obtain ⟨v, e2, r⟩ := h.datAt es
    refine ⟨v, e2, S, Z, F, h, Go.toS q fun b S1 c1 s1 h1 q1 y ry => ?_⟩
    cases eg : g a b with
    | none => rw [eg] at q1; exact q1.elim
    | some d =>
      rw [eg] at q1
      refine hr v y a b d S1 σ c1 _ eg h1 (r.mono s1.z) ry fun c2 z s2 h2 rz => ?_
      have hl : i < S1.length := by
        have l1 := h1.l.len
        have l0 := h.l.len
        have : i < S.length := by
          rcases Nat.lt_or_ge i S.length with z | z
          · exact z
          · rw [List.getElem?_eq_none z] at es; cases es
        omega
      obtain ⟨F', st, h'⟩ := h2.setD hl rz
      exact q1 _ ⟨c2.Z, c2.H, F'⟩ (s2.trans st) h'
  · exact q.elim

/-! ### loops -/
def forL (g : Tg) (body : SM) : List D → SM
  | [], S => .nx S
  | d :: ds, S => match g d S with
    | none => .bad
    | some S1 => match body S1 with
      | .nx S2 => forL g body ds S2
      | .ct S2 => forL g body ds S2
      | .bk S2 => .nx S2
      | o => o
def sFor (src : EM (List D)) (g : Tg) (body : SM) : SM := sOf src fun ds S => forL g body ds S
theorem ds_for {tg iter : Expr} {body : List Stmt} {m : EM (List D)} {is : List Nat} {g : Tg} {f : SM} (hp : PassesOwn (model X.prog X.w) X.A X.env X.xe) (hc : X.calm = true) (hi : DI X W tg iter m) (hg : DG X W tg is g) (hb : DSs X W body f)
    (hs : ∀ x, foldedSetIterable iter X.env x = pure x := by intro _; rfl) : DS X W (.For tg iter body [] pos) (sFor m g f) := by
  refine PS.wk (ps_for hp hc hi hg hb hs) fun Q σ H q => ?_
  obtain ⟨S, Z, F, h, q⟩ := q
  refine ⟨S, Z, F, h, Go.toS q fun ds S1 c1 s1 h1 q1 J it => ?_⟩
  refine ⟨fun i m σ' H' => m = ds.length - i ∧ i ≤ ds.length ∧ ∃ S' c', c'.H = H' ∧ Same c1.Z c'.Z ∧ Holds X.K S' σ' c' ∧ GoS (gx X W) c' Q (forL g f (ds.drop i) S'), ⟨ds.length, by simp, by simp, S1, c1, rfl, Same.refl _, h1, q1⟩, fun i m σ' H' w => ?_⟩
  obtain ⟨em, hi, S', c', eH, sm, h', q'⟩ := w
  subst eH
  by_cases hlt : i < ds.length
  · obtain ⟨go, yld⟩ := it.go i c' S' σ' hlt sm h'
    refine .inr ⟨go, fun σ2 H2 => ∃ S2 c2, c2.H = H2 ∧ Same c1.Z c2.Z ∧ Holds X.K S2 σ2 c2 ∧ GoS (gx X W) c2 Q (forL g f (ds.drop (i + 1)) S2), fun σ2 H2 n => ?_, fun x H2 y => ?_⟩
    · obtain ⟨S2, c2, e2, sm2, h2, q2⟩ := n
      exact ⟨ds.length - (i + 1), by omega, rfl, hlt, S2, c2, e2, sm2, h2, q2⟩
    · obtain ⟨c2, d, e2, ed, st2, h2, rd⟩ := yld x H2 y
      subst e2
      have dr : ds.drop i = d :: ds.drop (i + 1) := by
        rw [List.drop_eq_getElem_cons hlt]
        rw [List.getElem?_eq_getElem hlt] at ed
        rw [Option.some.inj ed]
      rw [dr] at q'
      unfold forL at q'
      cases eg : g d S' with
      | none => rw [eg] at q'; exact q'.elim
      | some S3 =>
        rw [eg] at q'
        refine ⟨S', c2.Z, c2.F, d, S3, h2, rd, eg, fun σ3 c3 st3 h3 _ => ?_⟩
        refine ⟨S3, c3.Z, c3.F, h3, ?_⟩
        have st13 : Stp c' c3 := st2.trans st3
        cases eb : f S3 with
        | nx S4 =>
          simp only [eb] at q'
          exact fun σ4 c4 st4 h4 => ⟨S4, c4, rfl, sm.trans (st13.trans st4).z, h4, GoS.step q' (st13.trans st4)⟩
        | ct S4 =>
          simp only [eb] at q'
          exact fun σ4 c4 st4 h4 => ⟨S4, c4, rfl, sm.trans (st13.trans st4).z, h4, GoS.step q' (st13.trans st4)⟩
        | bk S4 =>
          simp only [eb] at q'
          exact fun σ4 c4 st4 h4 => q' σ4 c4 (st13.trans st4) h4
        | rt v S4 =>
          simp only [eb] at q'
          exact fun σ4 c4 v st4 h4 => q' σ4 c4 v (st13.trans st4) h4
        | ex x S4 =>
          simp only [eb] at q'
          exact fun σ4 c4 cls dx st4 h4 => q' σ4 c4 cls dx (st13.trans st4) h4
        | bad =>
          simp only [eb] at q'
          exact q'.elim
  · have e : ds.drop i = [] := List.drop_eq_nil_of_le (by omega)
    rw [e] at q'
    exact .inl ⟨it.stop i c' S' σ' (by omega) sm h', q' σ' c' (Stp.refl _) h'⟩
def whileL (t : EM Bool) (body : SM) : Nat → SM
  | 0, _ => .bad
  | n + 1, S => match t S with
    | .ok true S1 => match body S1 with
      | .nx S2 => whileL t body n S2
      | .ct S2 => whileL t body n S2
      | .bk S2 => .nx S2
      | o => o
    | .ok false S1 => .nx S1
    | .ex e S1 => .ex e S1
    | .bad => .bad
def sWhile (n : Nat) (t : EM Bool) (body : SM) : SM := whileL t body n
theorem ds_while (n : Nat) {c : Expr} {body : List Stmt} {t : EM Bool} {f : SM} (hp : PassesOwn (model X.prog X.w) X.A X.env X.xe) (hc : DT X W c t) (hb : DSs X W body f) : DS X W (.While c body [] pos) (sWhile n t f) := by
  refine PS.wk (ps_while hp hc hb) fun Q σ H q => ?_
  obtain ⟨S, Z, F, h, q⟩ := q
  refine ⟨fun m σ' H' => ∃ S' c', c'.H = H' ∧ Holds X.K S' σ' c' ∧ GoS (gx X W) c' Q (whileL t f m S'), ⟨n, S, _, rfl, h, q⟩, fun m σ' H' w => ?_⟩
  obtain ⟨S', c', eH, h', q'⟩ := w
  subst eH
  cases m with
  | zero => exact q'.elim
  | succ m =>
    refine ⟨S', c'.Z, c'.F, h', ?_⟩
    unfold whileL at q'
    cases et : t S' with
    | bad => rw [et] at q'; exact q'.elim
    | ex e S1 =>
      rw [et] at q'
      exact fun c1 cls dx st h1 x => q' _ c1 cls dx st h1 x
    | ok b S1 =>
      rw [et] at q'
      intro c1 st h1
      cases b with
      | false => exact q' _ c1 st h1
      | true =>
        refine ⟨fun σ2 H2 => ∃ S2 c2, c2.H = H2 ∧ Holds X.K S2 σ2 c2 ∧ GoS (gx X W) c2 Q (whileL t f m S2), fun σ2 H2 ⟨S2, c2, e2, h2, q2⟩ => ⟨m, by omega, S2, c2, e2, h2, q2⟩, S1, c1.Z, c1.F, h1, ?_⟩
        cases eb : f S1 with
        | nx S4 =>
          simp only [eb] at q'
          exact fun σ4 c4 st4 h4 => ⟨S4, c4, rfl, h4, GoS.step q' (st.trans st4)⟩
        | ct S4 =>
          simp only [eb] at q'
          exact fun σ4 c4 st4 h4 => ⟨S4, c4, rfl, h4, GoS.step q' (st.trans st4)⟩
        | bk S4 =>
          simp only [eb] at q'
          exact fun σ4 c4 st4 h4 => q' σ4 c4 (st.trans st4) h4
        | rt v S4 =>
          simp only [eb] at q'
          exact fun σ4 c4 v st4 h4 => q' σ4 c4 v (st.trans st4) h4
        | ex x S4 =>
          simp only [eb] at q'
          exact fun σ4 c4 cls dx st4 h4 => q' σ4 c4 cls dx (st.trans st4) h4
        | bad =>
          simp only [eb] at q'
          exact q'.elim
end
end FW

/-! FwD: comprehensions, defs, calls. -/
namespace FW
open PySem PySem.Spec L2
open PyProof.Rows hiding St
section
variable {X : Cx} {W : WX} {pos : Pos}

/-! ### fresh lists -/
def tF (G : Gx) (f : EM (List D)) : TE := fun σ H Q => ∃ S Z F, Holds G.K S σ ⟨Z, H, F⟩ ∧ Go G σ ⟨Z, H, F⟩ (f S) (fun ds _ c' => ∀ p vs, c'.H p = none → RpA G.K c'.Z vs ds → Q (.ref p) (upd c'.H p (.lst vs)))
def DF (X : Cx) (W : WX) (e : Expr) (f : EM (List D)) : Prop := PE X e (tF (gx X W) f)
def eFz (f : EM (List D)) : EM D := eBind f fun ds => eRet (.list ds)
theorem de_f {e : Expr} {f : EM (List D)} (h : DF X W e f) : DE X W e (eFz f) := by
  refine PE.wk h fun σ H Q q => ?_
  obtain ⟨S, Z, F, h, q⟩ := q
  refine ⟨S, Z, F, h, (Go.bind q).mono fun ds S1 c1 s1 h1 q1 p vs hp rs => ?_⟩
  obtain ⟨s2, h2, r2⟩ := h1.layL hp rs
  exact q1 _ s2 h2 _ r2
/-- a fresh thing into a slot of its own -/
theorem Holds.setU {K : PySem.W.Frag} {S : List Slot} {σ : Sg} {c : Cfg} {i : Nat} {p : Addr} {u : HO} {sl : Slot} (h : Holds K S σ c) (hi : i < S.length) (hp : c.H p = none) (r : ∀ F', SlotOk K ⟨c.Z, upd c.H p u, F'⟩ sl (some (.ref p)) [p]) :
    ∃ F', Stp c ⟨c.Z, upd c.H p u, F'⟩ ∧ Holds K (S.set i sl) (σ.set i (some (.ref p))) ⟨c.Z, upd c.H p u, F'⟩ := by
  obtain ⟨A, Fi, B, x, e1, e2, _, up⟩ := h.l.at (List.getElem?_eq_getElem hi)
  have hF := h.nF hp
  rw [e1] at hF
  simp only [List.mem_append, not_or] at hF
  refine ⟨A ++ ([p] ++ B), ⟨Same.refl _, fun b o q _ => same_upd hp b o q, fun b o q => ⟨o, same_upd hp b o q⟩, fun _ _ q => .inl q, fun b m => ?_⟩, ⟨?_, ?_, fun a m => ?_, h.zh.trans (same_upd hp)⟩⟩
  · have m' : b ∈ A ++ ([p] ++ B) := m
    simp only [List.mem_append, List.mem_singleton] at m'
    rw [e1]
    rcases m' with m' | m' | m'
    · exact .inl (by simp [m'])
    · subst m'
      exact .inr hp
    · exact .inl (by simp [m'])
  · refine up ⟨c.Z, upd c.H p u, A ++ ([p] ++ B)⟩ sl (some (.ref p)) [p] (Same.refl _) (fun a m => ?_) (r _)
    have ne : a ≠ p := by
      rintro rfl
      rcases List.mem_append.mp m with m | m
      · exact hF.1 m
      · exact hF.2.2 m
    exact upd_ne ne
  · have nd := h.nd
    rw [e1] at nd
    show (A ++ ([p] ++ B)).Nodup
    simp only [List.nodup_append, List.mem_append, List.mem_singleton, List.nodup_cons] at nd ⊢
    grind
  · have m' : a ∈ A ++ ([p] ++ B) := m
    simp only [List.mem_append, List.mem_singleton] at m'
    rcases m' with m' | m' | m'
    · exact h.zf a (by rw [e1]; simp [m'])
    · subst m'
      exact h.nf hp
    · exact h.zf a (by rw [e1]; simp [m'])
theorem Holds.setO {K : PySem.W.Frag} {S : List Slot} {σ : Sg} {c : Cfg} {i : Nat} {p : Addr} {vs : List V} {ds : List D} (h : Holds K S σ c) (hi : i < S.length) (hp : c.H p = none) (r : RpA K c.Z vs ds) :
    ∃ F', Stp c ⟨c.Z, upd c.H p (.lst vs), F'⟩ ∧ Holds K (S.set i (.own ds)) (σ.set i (some (.ref p))) ⟨c.Z, upd c.H p (.lst vs), F'⟩ := h.setU hi hp fun F' => ⟨p, vs, rfl, rfl, upd_same, r⟩
def sOwn (i : Nat) (f : EM (List D)) : SM := sOf f fun ds S => if i < S.length then .nx (S.set i (.own ds)) else .bad
theorem own_rd {f : EM (List D)} {i : Nat} (Q : Ends) (σ : Sg) (H : Hp) (q : tS (gx X W) (sOwn i f) Q σ H) : tAsg (tF (gx X W) f) (gName i) Q σ H := by
  obtain ⟨S, Z, F, h, q⟩ := q
  refine ⟨S, Z, F, h, Go.toS q fun ds S1 c1 s1 h1 q1 p vs hp rs => ?_⟩
  split at q1
  · rename_i hl
    obtain ⟨F', st, h'⟩ := h1.setO hl hp rs
    exact q1 _ ⟨c1.Z, upd c1.H p (.lst vs), F'⟩ st h'
  · exact q1.elim
theorem ds_own (i : Nat) {x : Str} {e : Expr} {f : EM (List D)} {pos' : Pos} (hN : X.N.Nodup) (he : DF X W e f) (hi : X.N[i]? = some x := by rfl) (hx : Loc X.env.scope x := by first | exact Or.inl rfl | exact Or.inr rfl) (hs : swapsWith e (some (.Name x pos')) pos.line X.env = pure false := by rfl)
    (hf : X.fn x = true ∨ X.env.scope.names.lookup x = some .local := by first | exact .inl rfl | exact .inr rfl | assumption) : DS X W (.Assign [.Name x pos'] e pos) (sOwn i f) :=
  PS.wk (ps_set hN hi hx he hs hf) own_rd
theorem df_lst {es : List Expr} {f : EM (List D)} (ha : DA X W es f) : DF X W (.List es pos) (eBind f fun ds => if small ds.length then eRet ds else fun _ => .bad) := by
  refine PE.wk (pe_lst ha) fun σ H Q q => ?_
  obtain ⟨S, Z, F, h, q⟩ := q
  refine ⟨S, Z, F, h, (Go.bind q).mono fun ds S1 c1 s1 h1 q1 xs rs => ?_⟩
  by_cases hs : small ds.length = true
  · rw [if_pos hs] at q1
    exact ⟨by rw [rs.length]; exact of_decide_eq_true hs, fun p hp => q1 c1 (Stp.refl _) h1 p xs hp rs⟩
  · rw [if_neg hs] at q1
    exact q1.elim

/-! ### comprehensions -/
def wipeS : List Nat → List Slot → List Slot
  | [], S => S
  | v :: vs, S => (wipeS vs S).set v .un
def plainSlot : Slot → Bool
  | .un => true
  | .dat _ => true
  | _ => false
def restS : List Nat → List Slot → List Slot → List Slot
  | [], _, S => S
  | v :: vs, S0, S => match S0[v]? with
    | some s => (restS vs S0 S).set v s
    | none => restS vs S0 S
def plainAt (own : List Nat) (S : List Slot) : Bool := own.all fun v => match S[v]? with
  | some s => plainSlot s
  | none => true
theorem Holds.unset {K : PySem.W.Frag} {S : List Slot} {σ : Sg} {c : Cfg} (i : Nat) (h : Holds K S σ c) :
    ∃ F', (∀ b ∈ F', b ∈ c.F) ∧ Holds K (S.set i .un) (σ.set i none) ⟨c.Z, c.H, F'⟩ := by
  by_cases hi : i < S.length
  · obtain ⟨A, Fi, B, x, e1, e2, _, up⟩ := h.l.at (List.getElem?_eq_getElem hi)
    have sub : ∀ b ∈ A ++ B, b ∈ c.F := fun b m => by
      rw [e1]
      simp at m ⊢
      rcases m with m | m <;> simp [m]
    refine ⟨A ++ B, sub, ⟨?_, ?_, fun a m => h.zf a (sub a m), h.zh⟩⟩
    · exact up ⟨c.Z, c.H, A ++ B⟩ .un none [] (Same.refl _) (fun _ _ => rfl) rfl
    · have nd := h.nd
      rw [e1] at nd
      show (A ++ B).Nodup
      simp only [List.nodup_append, List.mem_append] at nd ⊢
      grind
  · have hl := h.l.len
    rw [List.set_eq_of_length_le (by omega), List.set_eq_of_length_le (by omega)]
    exact ⟨c.F, fun _ m => m, h⟩
theorem Holds.wipe {K : PySem.W.Frag} {S : List Slot} {σ : Sg} : ∀ (own : List Nat) {c : Cfg}, Holds K S σ c → ∃ F', (∀ b ∈ F', b ∈ c.F) ∧ Holds K (wipeS own S) (L2.wipe σ own) ⟨c.Z, c.H, F'⟩
  | [], c, h => ⟨c.F, fun _ m => m, h⟩
  | v :: vs, c, h => by
    obtain ⟨F1, s1, h1⟩ := Holds.wipe vs h
    obtain ⟨F2, s2, h2⟩ := h1.unset v
    exact ⟨F2, fun b m => s1 b (s2 b m), h2⟩
theorem Stp.sub {c : Cfg} {F' : List Addr} (h : ∀ b ∈ F', b ∈ c.F) : Stp c ⟨c.Z, c.H, F'⟩ := ⟨Same.refl _, fun _ _ q _ => q, fun _ o q => ⟨o, q⟩, fun _ _ q => .inl q, fun b m => .inl (h b m)⟩
/-- plain slots of one state come back into another one -/
theorem SlotOk.plain {K : PySem.W.Frag} {c c' : Cfg} {s : Slot} {x : Option V} {F : List Addr} (h : SlotOk K c s x F) (p : plainSlot s = true) (z : Same c.Z c'.Z) : SlotOk K c' s x [] := by
  cases s with
  | un => rfl
  | dat d =>
    obtain ⟨_, v, e, r⟩ := h
    exact ⟨rfl, v, e, r.mono z⟩
  | _ => cases p
theorem Holds.rest {K : PySem.W.Frag} {S0 : List Slot} {σ0 : Sg} {c0 : Cfg} (h0 : Holds K S0 σ0 c0) : ∀ (own : List Nat) {S : List Slot} {σ : Sg} {c : Cfg}, plainAt own S0 = true → Holds K S σ c → Same c0.Z c.Z → S.length = S0.length →
    ∃ F' σ', (∀ b ∈ F', b ∈ c.F) ∧ Holds K (restS own S0 S) σ' ⟨c.Z, c.H, F'⟩ ∧ (restS own S0 S).length = S0.length ∧ (∀ j, j ∉ own → σ'[j]? = σ[j]?) ∧ (∀ j ∈ own, σ'[j]? = σ0[j]?) ∧ σ'.length = σ.length
  | [], S, σ, c, _, h, z, hl => ⟨c.F, σ, fun _ m => m, h, hl, fun _ _ => rfl, fun _ m => by simp at m, rfl⟩
  | v :: vs, S, σ, c, p, h, z, hl => by
    unfold plainAt at p
    rw [List.all_cons, Bool.and_eq_true] at p
    obtain ⟨F1, σ1, s1, h1, l1, n1, o1, e1⟩ := Holds.rest h0 vs (S := S) (σ := σ) (c := c) p.2 h z hl
    have ls := h.l.len
    have ls0 := h0.l.len
    unfold restS
    cases es : S0[v]? with
    | none =>
      have hv : S0.length ≤ v := List.getElem?_eq_none_iff.mp es
      refine ⟨F1, σ1, s1, h1, l1, fun j hj => n1 j fun m => hj (List.mem_cons_of_mem _ m), fun j hj => ?_, e1⟩
      rcases List.mem_cons.mp hj with e | m
      · subst e
        rw [List.getElem?_eq_none (by omega), List.getElem?_eq_none (by omega)]
      · exact o1 j m
    | some s =>
      rw [es] at p
      obtain ⟨A, Fi, B, x, q1, q2, q3, _⟩ := h0.l.at es
      have hv : v < S0.length := by
        rcases Nat.lt_or_ge v S0.length with z | z
        · exact z
        · rw [List.getElem?_eq_none z] at es; cases es
      obtain ⟨A', Fi', B', x', r1, r2, _, up⟩ := h1.l.at (List.getElem?_eq_getElem (show v < (restS vs S0 S).length by rw [l1]; exact hv))
      have sub : ∀ b ∈ A' ++ B', b ∈ F1 := fun b m => by
        have r1' : F1 = A' ++ (Fi' ++ B') := r1
        rw [r1']
        simp at m ⊢
        rcases m with m | m <;> simp [m]
      refine ⟨A' ++ B', σ1.set v x, fun b m => s1 b (sub b m), ⟨?_, ?_, fun a m => h1.zf a (sub a m), h1.zh⟩, by simp [l1], fun j hj => ?_, fun j hj => ?_, by simp [e1]⟩
      · exact up ⟨c.Z, c.H, A' ++ B'⟩ s x [] (Same.refl _) (fun _ _ => rfl) (q3.plain p.1 z)
      · have nd := h1.nd
        have r1' : F1 = A' ++ (Fi' ++ B') := r1
        have nd' : F1.Nodup := nd
        rw [r1'] at nd'
        show (A' ++ B').Nodup
        simp only [List.nodup_append, List.mem_append] at nd' ⊢
        grind
      · simp only [List.mem_cons, not_or] at hj
        rw [List.getElem?_set_ne (Ne.symm hj.1)]
        exact n1 j hj.2
      · by_cases e : j = v
        · subst e
          rw [List.getElem?_set_self (by omega), q2]
        · rw [List.getElem?_set_ne (Ne.symm e)]
          rcases List.mem_cons.mp hj with z | m
          · exact absurd z e
          · exact o1 j m
theorem wipe_get {σ : Sg} {j : Nat} : ∀ {vs : List Nat}, j ∉ vs → (L2.wipe σ vs)[j]? = σ[j]?
  | [], _ => rfl
  | v :: vs, h => by
    simp only [List.mem_cons, not_or] at h
    unfold L2.wipe
    rw [List.getElem?_set_ne (Ne.symm h.1)]
    exact wipe_get h.2
theorem Holds.back {K : PySem.W.Frag} {S0 S : List Slot} {σ : Sg} {c0 c : Cfg} {own : List Nat} (h0 : Holds K S0 σ c0) (p : plainAt own S0 = true) (h : Holds K S (L2.wipe σ own) c) (z : Same c0.Z c.Z) :
    ∃ F', (∀ b ∈ F', b ∈ c.F) ∧ Holds K (restS own S0 S) σ ⟨c.Z, c.H, F'⟩ := by
  have l0 := h0.l.len
  have l1 := h.l.len
  rw [wipe_length] at l1
  obtain ⟨F', σ', s, h', _, n, o, e⟩ := Holds.rest h0 own p h z (by omega)
  have es : σ' = σ := by
    apply List.ext_getElem?
    intro j
    by_cases hj : j ∈ own
    · exact o j hj
    · rw [n j hj, wipe_get hj]
  rw [es] at h'
  exact ⟨F', s, h'⟩
theorem wipeS_length (vs : List Nat) (S : List Slot) : (wipeS vs S).length = S.length := by
  induction vs with
  | nil => rfl
  | cons v vs ih =>
    unfold wipeS
    rw [List.length_set, ih]
theorem wipe_wipe (vs : List Nat) (τ : Sg) : L2.wipe (L2.wipe τ vs) vs = L2.wipe τ vs := by
  have aux : ∀ (us : List Nat) (τ : Sg), (∀ u ∈ us, u ∈ vs) → L2.wipe (L2.wipe τ us) vs = L2.wipe τ vs := by
    intro us
    induction us with
    | nil => intro τ _; rfl
    | cons u us ih =>
      intro τ hu
      show L2.wipe ((L2.wipe τ us).set u none) vs = _
      rw [wipe_set (hu u (by simp))]
      exact ih τ fun w hw => hu w (by simp [hw])
  exact aux vs τ fun _ h => h
def compL (own : List Nat) (g : Tg) (t : EM Bool) (e : EM D) : List D → EM (List D)
  | [], S => .ok [] S
  | d :: ds, S => match g d S with
    | none => .bad
    | some S1 => match t S1 with
      | .ok true S2 => match e S2 with
        | .ok y S3 => match compL own g t e ds (wipeS own S3) with
          | .ok ys S4 => .ok (y :: ys) S4
          | _ => .bad
        | _ => .bad
      | .ok false S2 => compL own g t e ds (wipeS own S2)
      | _ => .bad
def eComp (own : List Nat) (src : EM (List D)) (g : Tg) (t : EM Bool) (e : EM D) : EM (List D) := eBind src fun ds S => if plainAt own S && small ds.length then
    match compL own g t e ds (wipeS own S) with
    | .ok ys S' => .ok ys (restS own S S')
    | _ => .bad
  else .bad
def bYes : EM Bool := eRet true
def DTs (X : Cx) (W : WX) (ifs : List Expr) (f : EM Bool) : Prop := PTs X ifs (tB' (gx X W) f)
theorem dts_nil : DTs X W [] bYes := by
  refine ⟨fun pins s σ H Q I q => pts_nil.run pins s σ H Q I ?_⟩
  obtain ⟨S, Z, F, h, q⟩ := q
  exact q _ (Stp.refl _) h
theorem dts_one {c : Expr} {f : EM Bool} (h : DT X W c f) : DTs X W [c] f := pts_one h
/-- the new list while it is made -/
structure Mk1 (K : PySem.W.Frag) (c1 c : Cfg) (A : Addr) (acc : List D) : Prop where
  st : Stp c1 c
  hn : c1.H A = none
  at' : ∃ vs, c.H A = some (.lst vs) ∧ RpA K c.Z vs acc
  zn : c.Z A = none
  nf : A ∉ c.F
theorem Mk1.step {K : PySem.W.Frag} {c1 c c' : Cfg} {A : Addr} {acc : List D} (m : Mk1 K c1 c A acc) (s : Stp c c') : Mk1 K c1 c' A acc := by
  obtain ⟨vs, e, r⟩ := m.at'
  refine ⟨m.st.trans s, m.hn, ⟨vs, s.k _ _ e m.nf, r.mono s.z⟩, ?_, fun hm => ?_⟩
  · cases q : c'.Z A with
    | none => rfl
    | some o =>
      rcases s.n _ _ q with z | z | z | ⟨xs, z⟩
      · rw [m.zn] at z; cases z
      · rw [e] at z; cases z
      · exact absurd z m.nf
      · rw [e] at z; cases z
  · rcases s.f _ hm with z | z
    · exact m.nf z
    · rw [e] at z; cases z
theorem Mk1.sub {K : PySem.W.Frag} {c1 c : Cfg} {A : Addr} {acc : List D} {F' : List Addr} (m : Mk1 K c1 c A acc) (h : ∀ b ∈ F', b ∈ c.F) : Mk1 K c1 ⟨c.Z, c.H, F'⟩ A acc := m.step (Stp.sub h)
theorem Stp.tmpU {c1 c : Cfg} (s : Stp c1 c) {A : Addr} {o : HO} (hn : c1.H A = none) : Stp c1 (c.tmp A o) where
  z := s.z
  k := fun b x e hb => by
    have ne : b ≠ A := by
      rintro rfl
      rw [hn] at e
      cases e
    exact (upd_ne ne).trans (s.k b x e hb)
  t := fun b x e => by
    obtain ⟨o', e'⟩ := s.t b x e
    have ne : b ≠ A := by
      rintro rfl
      rw [hn] at e
      cases e
    exact ⟨o', (upd_ne ne).trans e'⟩
  n := s.n
  f := s.f
theorem Mk1.push {K : PySem.W.Frag} {c1 c : Cfg} {A : Addr} {acc : List D} {vs : List V} {v : V} {d : D} (m : Mk1 K c1 c A acc) (e : c.H A = some (.lst vs)) (ra : RpA K c.Z vs acc) (r : Rp K c.Z v d) : Mk1 K c1 (c.tmp A (.lst (vs ++ [v]))) A (acc ++ [d]) :=
  ⟨m.st.tmpU m.hn, m.hn, ⟨vs ++ [v], upd_same, ra.append (.cons r .nil)⟩, m.zn, m.nf⟩
theorem comp_rd {own : List Nat} {is : List Nat} {g : Tg} {t : EM Bool} {e : EM D} {m : EM (List D)} {σ : Sg} {H : Hp} {Q : VK} (hsub : ∀ i ∈ is, i ∈ own) (q : tF (gx X W) (eComp own m g t e) σ H Q) :
    tLc (tI (gx X W) m) (tG (gx X W) is g) (tB' (gx X W) t) (tD (gx X W) e) own σ H Q := by
  obtain ⟨S, Z, F, h, q⟩ := q
  refine ⟨S, Z, F, h, (Go.bind q).mono fun ds S1 c1 s1 h1 q1 J it A hA => ?_⟩
  by_cases hb : (plainAt own S1 && small ds.length) = true
  · rw [if_pos hb] at q1
    rw [Bool.and_eq_true] at hb
    obtain ⟨F0, sub0, h0⟩ := h1.wipe own
    have hsz : ds.length ≤ sizeLine := of_decide_eq_true hb.2
    -- what the whole loop comes to
    cases eC : compL own g t e ds (wipeS own S1) with
    | bad => simp only [eC] at q1; exact q1.elim
    | ex x S2 => simp only [eC] at q1; exact q1.elim
    | ok ys Sz =>
      simp only [eC] at q1
      refine ⟨fun i k H' => k = ds.length - i ∧ i ≤ ds.length ∧ ∃ S' c' acc rest, c'.H = H' ∧ Holds X.K S' (L2.wipe σ own) c' ∧ Mk1 X.K c1 c' A acc ∧ acc.length ≤ i ∧ compL own g t e (ds.drop i) S' = .ok rest Sz ∧ acc ++ rest = ys, ⟨ds.length, ?_⟩, fun i k H' w => ?_⟩
      · have hn0 : (⟨c1.Z, c1.H, F0⟩ : Cfg).H A = none := hA
        obtain ⟨s2, h2⟩ := h0.tmpS (o := .lst []) hn0
        refine ⟨by simp, by simp, wipeS own S1, (⟨c1.Z, c1.H, F0⟩ : Cfg).tmp A (.lst []), [], ys, rfl, h2, ⟨(Stp.sub sub0).tmpU hA, hA, ⟨[], upd_same, .nil⟩, h1.nf hA, fun mm => h1.nF hA (sub0 A mm)⟩, by simp, by simpa using eC, rfl⟩
      · obtain ⟨ek, hi, S', c', acc, rest, eH, h', mk, la, ec, ey⟩ := w
        subst eH
        by_cases hlt : i < ds.length
        · obtain ⟨go, yld⟩ := it.go i c' S' (L2.wipe σ own) hlt mk.st.z h'
          refine .inr ⟨go, fun H2 => ∃ S2 c2 acc2 rest2, c2.H = H2 ∧ Holds X.K S2 (L2.wipe σ own) c2 ∧ Mk1 X.K c1 c2 A acc2 ∧ acc2.length ≤ i + 1 ∧ compL own g t e (ds.drop (i + 1)) S2 = .ok rest2 Sz ∧ acc2 ++ rest2 = ys, fun H2 n => ?_, fun x H2 y => ?_⟩
          · obtain ⟨S2, c2, acc2, rest2, n1, n2, n3, n4, n5, n6⟩ := n
            exact ⟨ds.length - (i + 1), by omega, rfl, hlt, S2, c2, acc2, rest2, n1, n2, n3, n4, n5, n6⟩
          · obtain ⟨c2, d, e2, ed, st2, h2, rd⟩ := yld x H2 y
            subst e2
            have dr : ds.drop i = d :: ds.drop (i + 1) := by
              rw [List.drop_eq_getElem_cons hlt]
              rw [List.getElem?_eq_getElem hlt] at ed
              rw [Option.some.inj ed]
            rw [dr] at ec
            unfold compL at ec
            cases eg : g d S' with
            | none => simp only [eg] at ec; cases ec
            | some S3 =>
              simp only [eg] at ec
              refine ⟨S', c2.Z, c2.F, d, S3, h2, rd, eg, fun σ3 c3 st3 h3 on => ?_⟩
              have wσ : L2.wipe σ3 own = L2.wipe σ own := (on own hsub).trans (wipe_wipe own σ)
              refine ⟨wσ, S3, c3.Z, c3.F, h3, ?_⟩
              have m3 := (mk.step st2).step st3
              cases et : t S3 with
              | bad => simp only [et] at ec; cases ec
              | ex x S4 => simp only [et] at ec; cases ec
              | ok b S4 =>
                intro c4 st4 h4
                have m4 := m3.step st4
                cases b with
                | false =>
                  simp only [et] at ec
                  refine iteF ?_
                  obtain ⟨F5, sub5, h5⟩ := h4.wipe own
                  rw [wσ] at h5
                  exact ⟨_, ⟨c4.Z, c4.H, F5⟩, acc, rest, rfl, h5, m4.sub sub5, by omega, ec, ey⟩
                | true =>
                  simp only [et] at ec
                  refine iteT ?_
                  refine ⟨S4, c4.Z, c4.F, h4, ?_⟩
                  cases ee : e S4 with
                  | bad => simp only [ee] at ec; cases ec
                  | ex x S5 => simp only [ee] at ec; cases ec
                  | ok yv S5 =>
                    simp only [ee] at ec
                    intro c5 st5 h5 v rv
                    have m5 := m4.step st5
                    obtain ⟨vs, e5, r5⟩ := m5.at'
                    cases er : compL own g t e (ds.drop (i + 1)) (wipeS own S5) with
                    | bad => simp only [er] at ec; cases ec
                    | ex x S6 => simp only [er] at ec; cases ec
                    | ok ys2 S6 =>
                      simp only [er] at ec
                      cases ec
                      obtain ⟨F6, sub6, h6⟩ := h5.wipe own
                      rw [wσ] at h6
                      have m6 := m5.sub sub6
                      refine ⟨vs, e5, by have := r5.length; omega, _, (⟨c5.Z, c5.H, F6⟩ : Cfg).tmp A (.lst (vs ++ [v])), acc ++ [yv], ys2, rfl, h6.tmp m6.nf m6.zn fun _ _ => ⟨_, rfl⟩, m6.push e5 r5 rv, by simp; omega, er, by simpa using ey⟩
        · have e0 : ds.drop i = [] := List.drop_eq_nil_of_le (by omega)
          rw [e0] at ec
          cases ec
          rw [List.append_nil] at ey
          subst ey
          refine .inl ⟨it.stop i c' Sz (L2.wipe σ own) (by omega) mk.st.z h', ?_⟩
          obtain ⟨vs, ev, rv⟩ := mk.at'
          -- the state without the new list
          have hne : ∀ b, b ≠ A → (fun b => if b = A then none else c'.H b : Hp) b = c'.H b := fun b hb => if_neg hb
          have hcA : (fun b => if b = A then none else c'.H b : Hp) A = none := if_pos rfl
          have hh : Holds X.K Sz (L2.wipe σ own) ⟨c'.Z, fun b => if b = A then none else c'.H b, c'.F⟩ := by
            refine ⟨HoldsL.tr (c := c') (c' := ⟨c'.Z, fun b => if b = A then none else c'.H b, c'.F⟩) (Same.refl c'.Z) h'.l fun a ha => hne a fun z => mk.nf (z ▸ ha), h'.nd, h'.zf, fun b o q => ?_⟩
            have nb : b ≠ A := by
              rintro rfl
              have q' : c'.Z b = some o := q
              rw [mk.zn] at q'
              cases q'
            exact (hne b nb).trans (h'.zh b o q)
          obtain ⟨F7, sub7, h7⟩ := Holds.back h1 hb.1 hh mk.st.z
          have st7 : Stp c1 ⟨c'.Z, fun b => if b = A then none else c'.H b, F7⟩ := by
            refine ⟨mk.st.z, fun b o q hn => ?_, fun b o q => ?_, mk.st.n, fun b hm => mk.st.f b (sub7 b hm)⟩
            · have nb : b ≠ A := by
                rintro rfl
                rw [mk.hn] at q
                cases q
              exact (hne b nb).trans (mk.st.k b o q hn)
            · have nb : b ≠ A := by
                rintro rfl
                rw [mk.hn] at q
                cases q
              obtain ⟨o', q'⟩ := mk.st.t b o q
              exact ⟨o', (hne b nb).trans q'⟩
          have fin := q1 _ st7 h7 A vs hcA rv
          have eq : upd (fun b => if b = A then none else c'.H b) A (.lst vs) = c'.H := by
            funext b
            by_cases hb' : b = A
            · subst hb'
              rw [upd_same, ev]
            · rw [upd_ne hb']
              exact hne b hb'
          have fin' : Q (.ref A) (upd (fun b => if b = A then none else c'.H b) A (.lst vs)) := fin
          rw [eq] at fin'
          exact fin'
  · rw [if_neg hb] at q1
    exact q1.elim
theorem df_comp {elt tg iter : Expr} {ifs : List Expr} {scope : Scope} {own : List (Str × Nat)} {is : List Nat} {m : EM (List D)} {g : Tg} {t : EM Bool} {e : EM D} (hc : X.calm = true) (hN : X.N.Nodup) (hi : DI X W tg iter m) (ok : BlkOk X.N X.env.scope scope own)
    (hg : ∀ (s : Shared) (H : Hp) (C : Addr) (cl : List (Str × Addr)) (fp : List Addr), DG (X.blk s H scope (compEnvC scope cl C X.env) fp) W tg is g) (ht : ∀ (s : Shared) (H : Hp) (C : Addr) (cl : List (Str × Addr)) (fp : List Addr), DTs (X.blk s H scope (compEnvC scope cl C X.env) fp) W ifs t)
    (he : ∀ (s : Shared) (H : Hp) (C : Addr) (cl : List (Str × Addr)) (fp : List Addr), DE (X.blk s H scope (compEnvC scope cl C X.env) fp) W elt e) (hsub : ∀ i ∈ is, i ∈ own.map (·.2)) (hs : ∀ x, foldedSetIterable iter X.env x = pure x := by intro _; rfl) :
    DF X W (.ListComp elt [⟨tg, iter, ifs, 0⟩] scope pos) (eComp (own.map (·.2)) m g t e) := PE.wk (pe_lc (g := tG (gx X W) is g) (tt := tB' (gx X W) t) (te := tD (gx X W) e) hc hN hi ok hg ht he hs) fun σ H Q q => comp_rd hsub q
/-- name = [..] -/
theorem comp_own {own : List Nat} {is : List Nat} {g : Tg} {t : EM Bool} {e : EM D} {m : EM (List D)} {i : Nat} (hsub : ∀ i ∈ is, i ∈ own) (Q : Ends) (σ : Sg) (H : Hp) (q : tS (gx X W) (sOwn i (eComp own m g t e)) Q σ H) :
    tAsg (tLc (tI (gx X W) m) (tG (gx X W) is g) (tB' (gx X W) t) (tD (gx X W) e) own) (gName i) Q σ H := comp_rd hsub (own_rd Q σ H q)
theorem ds_ownLc (i : Nat) {y : Str} {py : Pos} {elt tg iter : Expr} {ifs : List Expr} {scope : Scope} {own : List (Str × Nat)} {spos : Pos} {is : List Nat} {m : EM (List D)} {g : Tg} {t : EM Bool} {e : EM D} (hc : X.calm = true) (hN : X.N.Nodup) (hi : DI X W tg iter m) (ok : BlkOk X.N X.env.scope scope own)
    (hg : ∀ (s : Shared) (H : Hp) (C : Addr) (cl : List (Str × Addr)) (fp : List Addr), DG (X.blk s H scope (compEnvC scope cl C X.env) fp) W tg is g) (ht : ∀ (s : Shared) (H : Hp) (C : Addr) (cl : List (Str × Addr)) (fp : List Addr), DTs (X.blk s H scope (compEnvC scope cl C X.env) fp) W ifs t)
    (he : ∀ (s : Shared) (H : Hp) (C : Addr) (cl : List (Str × Addr)) (fp : List Addr), DE (X.blk s H scope (compEnvC scope cl C X.env) fp) W elt e) (hsub : ∀ i ∈ is, i ∈ own.map (·.2))
    (hsw : swapsWith (.ListComp elt [⟨tg, iter, ifs, 0⟩] scope pos) (some (.Name y py)) spos.line X.env = pure true) (hy : X.N[i]? = some y := by rfl) (hyl : X.env.scope.names.lookup y = some .local := by rfl) (hs : ∀ x, foldedSetIterable iter X.env x = pure x := by intro _; rfl) :
    DS X W (.Assign [.Name y py] (.ListComp elt [⟨tg, iter, ifs, 0⟩] scope pos) spos) (sOwn i (eComp (own.map (·.2)) m g t e)) :=
  PS.wk (ps_setLc (g := tG (gx X W) is g) (tt := tB' (gx X W) t) (te := tD (gx X W) e) hc hN hy hyl hsw hi ok hg ht he hs) (comp_own hsub)
/-- the same, frozen at once -/
def sDat (i : Nat) (f : EM (List D)) : SM := sOf f fun ds S => if i < S.length then .nx (S.set i (.dat (.list ds))) else .bad
theorem dat_rd {f : EM (List D)} {i : Nat} (Q : Ends) (σ : Sg) (H : Hp) (q : tS (gx X W) (sDat i f) Q σ H) : tAsg (tF (gx X W) f) (gName i) Q σ H := by
  obtain ⟨S, Z, F, h, q⟩ := q
  refine ⟨S, Z, F, h, Go.toS q fun ds S1 c1 s1 h1 q1 p vs hp rs => ?_⟩
  split at q1
  · rename_i hl
    obtain ⟨s2, h2, r2⟩ := h1.layL hp rs
    obtain ⟨F', st, h'⟩ := h2.setD hl r2
    exact q1 _ ⟨(c1.lay p (.lst vs)).Z, (c1.lay p (.lst vs)).H, F'⟩ (s2.trans st) h'
  · exact q1.elim
theorem ds_datLc (i : Nat) {y : Str} {py : Pos} {elt tg iter : Expr} {ifs : List Expr} {scope : Scope} {own : List (Str × Nat)} {spos : Pos} {is : List Nat} {m : EM (List D)} {g : Tg} {t : EM Bool} {e : EM D} (hc : X.calm = true) (hN : X.N.Nodup) (hi : DI X W tg iter m) (ok : BlkOk X.N X.env.scope scope own)
    (hg : ∀ (s : Shared) (H : Hp) (C : Addr) (cl : List (Str × Addr)) (fp : List Addr), DG (X.blk s H scope (compEnvC scope cl C X.env) fp) W tg is g) (ht : ∀ (s : Shared) (H : Hp) (C : Addr) (cl : List (Str × Addr)) (fp : List Addr), DTs (X.blk s H scope (compEnvC scope cl C X.env) fp) W ifs t)
    (he : ∀ (s : Shared) (H : Hp) (C : Addr) (cl : List (Str × Addr)) (fp : List Addr), DE (X.blk s H scope (compEnvC scope cl C X.env) fp) W elt e) (hsub : ∀ i ∈ is, i ∈ own.map (·.2))
    (hsw : swapsWith (.ListComp elt [⟨tg, iter, ifs, 0⟩] scope pos) (some (.Name y py)) spos.line X.env = pure true) (hy : X.N[i]? = some y := by rfl) (hyl : X.env.scope.names.lookup y = some .local := by rfl) (hs : ∀ x, foldedSetIterable iter X.env x = pure x := by intro _; rfl) :
    DS X W (.Assign [.Name y py] (.ListComp elt [⟨tg, iter, ifs, 0⟩] scope pos) spos) (sDat i (eComp (own.map (·.2)) m g t e)) :=
  PS.wk (ps_setLc (g := tG (gx X W) is g) (tt := tB' (gx X W) t) (te := tD (gx X W) e) hc hN hy hyl hsw hi ok hg ht he hs) fun Q σ H q => comp_rd hsub (dat_rd Q σ H q)
end
end FW

/-! FwE: defs and their calls, the numbers that are drawn. -/
namespace FW
open PySem PySem.Spec L2
open PyProof.Rows hiding St
inductive Rs where
  | ok (d : D)
  | ex (e : Exn)
  | bad
def startS (ds : List D) (n : Nat) : List Slot := ds.map Slot.dat ++ List.replicate (n - ds.length) Slot.un
def outR : Out → Rs
  | .rt d _ => .ok d
  | .nx _ => .ok .none
  | .ex e _ => .ex e
  | _ => .bad
def runF (n : Nat) (body : SM) (ds : List D) : Rs := outR (body (startS ds n))
/-- what a def of data promises: nothing is raised; something may be raised -/
def spD0 (K : PySem.W.Frag) (m : Nat) (g : List D → Rs) : Sp := fun vs H Q _ => ∃ ds Z, ds.length = m ∧ Same Z H ∧ RpA K Z vs ds ∧
  match g ds with
  | .ok d => ∀ c' v, Stp ⟨Z, H, []⟩ c' → Same c'.Z c'.H → Rp K c'.Z v d → Q v c'.H
  | _ => False
def spDX (K : PySem.W.Frag) (mg : Str → Option Value) (m : Nat) (g : List D → Rs) : Sp := fun vs H Q E => ∃ ds Z, ds.length = m ∧ Same Z H ∧ RpA K Z vs ds ∧
  match g ds with
  | .ok d => ∀ c' v, Stp ⟨Z, H, []⟩ c' → Same c'.Z c'.H → Rp K c'.Z v d → Q v c'.H
  | .ex e => ∀ c' cls dx, Stp ⟨Z, H, []⟩ c' → Same c'.Z c'.H → ExOk mg c'.Z e cls dx → E cls dx c'.H
  | .bad => False
theorem startL {K : PySem.W.Frag} {c : Cfg} : ∀ {ds : List D} {vs : List V} (n : Nat), RpA K c.Z vs ds → HoldsL K c (ds.map Slot.dat ++ List.replicate n Slot.un) (vs.map some ++ List.replicate n none) []
  | [], _, 0, .nil => .nil
  | [], _, n + 1, .nil => by
    have ih := startL (K := K) (c := c) (ds := []) (vs := []) n .nil
    have q : HoldsL K c (Slot.un :: (List.map Slot.dat [] ++ List.replicate n Slot.un)) (none :: (List.map some [] ++ List.replicate n none)) ([] ++ []) := .cons (show SlotOk K c .un none [] from rfl) ih
    simpa [List.replicate_succ] using q
  | d :: ds, _, n, .cons (v := v) (vs := vs) r rs => by
    have ih := startL (K := K) (c := c) n rs
    have q : HoldsL K c (Slot.dat d :: (ds.map Slot.dat ++ List.replicate n Slot.un)) (some v :: (vs.map some ++ List.replicate n none)) ([] ++ []) := .cons (show SlotOk K c (.dat d) (some v) [] from ⟨rfl, v, rfl, r⟩) ih
    simpa using q
theorem startH {K : PySem.W.Frag} {Z H : Hp} {N : List Str} {ds : List D} {vs : List V} (z : Same Z H) (r : RpA K Z vs ds) : Holds K (startS ds N.length) (L2.start N vs) ⟨Z, H, []⟩ := by
  refine ⟨?_, List.nodup_nil, fun a m => by simp at m, z⟩
  unfold startS L2.start
  rw [r.length]
  exact startL _ r
section
variable {P : Program} {w : World} {K : PySem.W.Frag} {mg : Str → Option Value} {base : Heap}
abbrev W0 : WX := fun _ _ _ _ => False
theorem ok_D0 {x qual : Str} {st : Stmt} {f : Addr} {fd : FuncData} {N ps : List Str} {k : Nat} {body : SM} (F : Fun K x qual st f fd) (S : FnScope N ps (defScope st))
    (hb : ∀ (cdv : Value) (A : Around) (outer : List Env) (s : Shared) (H : Hp) (E : XK), Room k (A.deeper (envOfC qual (defScope st) s.heap.objs.size f cdv)) →
      DSs (cxOf CX0 P w K mg base N qual (defScope st) f cdv A outer s H E).nox W0 (defBody st) body) : FnOk P w K mg base CX0 (k + 1) f fd ps (spD0 K ps.length (runF N.length body)) := by
  refine F.ok S (fun vs H Q E h => ?_) (fun cdv A outer s H vs Q E hr h => ?_)
  · obtain ⟨ds, Z, hl, _, r, _⟩ := h
    rw [r.length]
    exact hl
  · obtain ⟨ds, Z, hl, z, r, q⟩ := h
    refine ⟨_, hb cdv A outer s H E hr, startS ds N.length, Z, [], startH z r, ?_⟩
    unfold runF outR at q
    cases e : body (startS ds N.length) with
    | nx S' => rw [e] at q; exact fun σ' c' st' h' => q c' .non st' h'.zh .non
    | rt d S' => rw [e] at q; exact fun σ' c' v st' h' rv => q c' v st' h'.zh rv
    | bk S' => rw [e] at q; exact q.elim
    | ct S' => rw [e] at q; exact q.elim
    | ex x S' => rw [e] at q; exact q.elim
    | bad => rw [e] at q; exact q.elim
theorem ok_DX {x qual : Str} {st : Stmt} {f : Addr} {fd : FuncData} {N ps : List Str} {k : Nat} {body : SM} (F : Fun K x qual st f fd) (S : FnScope N ps (defScope st))
    (hb : ∀ (cdv : Value) (A : Around) (outer : List Env) (s : Shared) (H : Hp) (E : XK), Room k (A.deeper (envOfC qual (defScope st) s.heap.objs.size f cdv)) →
      DSs (cxOf (L2.CX P w) P w K mg base N qual (defScope st) f cdv A outer s H E) (fun cls d _ H => E cls d H) (defBody st) body) : FnOk P w K mg base (L2.CX P w) (k + 1) f fd ps (spDX K mg ps.length (runF N.length body)) := by
  refine F.okX S (fun vs H Q E h => ?_) (fun cdv A outer s H vs Q E hr h => ?_)
  · obtain ⟨ds, Z, hl, _, r, _⟩ := h
    rw [r.length]
    exact hl
  · obtain ⟨ds, Z, hl, z, r, q⟩ := h
    refine ⟨_, hb cdv A outer s H E hr, startS ds N.length, Z, [], startH z r, ?_⟩
    unfold runF outR at q
    cases e : body (startS ds N.length) with
    | nx S' => rw [e] at q; exact fun σ' c' st' h' => q c' .non st' h'.zh .non
    | rt d S' => rw [e] at q; exact fun σ' c' v st' h' rv => q c' v st' h'.zh rv
    | bk S' => rw [e] at q; exact q.elim
    | ct S' => rw [e] at q; exact q.elim
    | ex x S' => rw [e] at q; exact fun σ' c' cls dx st' h' x => q c' cls dx st' h'.zh x
    | bad => rw [e] at q; exact q.elim
/-- a promise that is never asked -/
theorem ok_bad {CX : CXT} {f : Addr} {fd : FuncData} {ps : List Str} {k m : Nat} : FnOk P w K mg base CX k f fd ps (spD0 K m fun _ => .bad) where
  len := fun vs H Q E h => by obtain ⟨_, _, _, _, _, q⟩ := h; exact q.elim
  run := fun A outer s H args us vs Q E _ _ _ _ h => by obtain ⟨_, _, _, _, _, q⟩ := h; exact q.elim
theorem ok_badX {CX : CXT} {f : Addr} {fd : FuncData} {ps : List Str} {k m : Nat} : FnOk P w K mg base CX k f fd ps (spDX K mg m fun _ => .bad) where
  len := fun vs H Q E h => by obtain ⟨_, _, _, _, _, q⟩ := h; exact q.elim
  run := fun A outer s H args us vs Q E _ _ _ _ h => by obtain ⟨_, _, _, _, _, q⟩ := h; exact q.elim
/-! ### the drawn numbers -/
inductive Rw where
  | ok (d : D) (k : Int) (ns : List Int)
  | bad
def outW (a : Addr) : Out → Rw
  | .rt d S => match S with
    | .drw a' k ns :: _ => if a' = a then .ok d k ns else .bad
    | _ => .bad
  | _ => .bad
def runW (n : Nat) (body : SM) (a : Addr) (k : Int) (ns : List Int) (ds : List D) : Rw := outW a (body (.drw a k ns :: startS ds (n - 1)))
def spW (K : PySem.W.Frag) (m : Nat) (g : Addr → Int → List Int → List D → Rw) : Sp := fun vs H Q _ => ∃ a k ns vs' ds Z F, vs = .ref a :: vs' ∧ ds.length + 1 = m ∧ RpA K Z vs' ds ∧ Holds K [.drw a k ns] [some (.ref a)] ⟨Z, H, F⟩ ∧
  match g a k ns ds with
  | .ok d k' ns' => ∀ c' v, Stp ⟨Z, H, F⟩ c' → Holds K [.drw a k' ns'] [some (.ref a)] c' → Rp K c'.Z v d → Q v c'.H
  | .bad => False
theorem HoldsL.one {c : Cfg} {s : Slot} {x : Option V} {F : List Addr} (h : HoldsL K c [s] [x] F) : SlotOk K c s x F := by
  cases h with
  | cons h1 h2 =>
    cases h2
    rw [List.append_nil]
    exact h1
theorem Holds.one {c : Cfg} {s : Slot} {x : Option V} (h : Holds K [s] [x] c) : SlotOk K c s x c.F := h.l.one
theorem startHW {N : List Str} {Z H : Hp} {F : List Addr} {a : Addr} {k : Int} {ns : List Int} {ds : List D} {vs : List V} (h : Holds K [.drw a k ns] [some (.ref a)] ⟨Z, H, F⟩) (r : RpA K Z vs ds) (hN : 0 < N.length) :
    Holds K (.drw a k ns :: startS ds (N.length - 1)) (L2.start N (.ref a :: vs)) ⟨Z, H, F⟩ := by
  refine ⟨?_, h.nd, h.zf, h.zh⟩
  have e : L2.start N (.ref a :: vs) = some (.ref a) :: (vs.map some ++ List.replicate (N.length - 1 - vs.length) none) := by
    unfold L2.start
    rw [List.map_cons, List.cons_append, List.length_cons]
    congr 3
    omega
  rw [e]
  have q : HoldsL K ⟨Z, H, F⟩ (.drw a k ns :: startS ds (N.length - 1)) (some (.ref a) :: (vs.map some ++ List.replicate (N.length - 1 - vs.length) none)) (F ++ []) := by
    refine .cons h.one ?_
    unfold startS
    rw [r.length]
    exact startL (c := ⟨Z, H, F⟩) _ r
  rw [List.append_nil] at q
  exact q
theorem Holds.first {S : List Slot} {σ : Sg} {c : Cfg} {a : Addr} {k : Int} {ns : List Int} (h : Holds K (.drw a k ns :: S) σ c) :
    ∃ F', (∀ b ∈ F', b ∈ c.F) ∧ Holds K [.drw a k ns] [some (.ref a)] ⟨c.Z, c.H, F'⟩ := by
  obtain ⟨A, Fi, B, x, e1, e2, o, _⟩ := h.l.at (i := 0) rfl
  have sub : ∀ b ∈ Fi, b ∈ c.F := fun b m => by
    rw [e1]
    simp [m]
  have ex : x = some (.ref a) := by
    obtain ⟨_, _, ex, _⟩ := o
    exact ex
  subst ex
  refine ⟨Fi, sub, ⟨?_, ?_, fun b m => h.zf b (sub b m), h.zh⟩⟩
  · have q : HoldsL K ⟨c.Z, c.H, Fi⟩ [.drw a k ns] [some (.ref a)] (Fi ++ []) := .cons (o.tr (Same.refl _) fun _ _ => rfl) .nil
    rw [List.append_nil] at q
    exact q
  · have nd := h.nd
    rw [e1] at nd
    simp only [List.nodup_append] at nd
    exact nd.2.1.1
theorem ok_W {x qual : Str} {st : Stmt} {f : Addr} {fd : FuncData} {N ps : List Str} {k : Nat} {body : SM} (F : Fun K x qual st f fd) (S : FnScope N ps (defScope st)) (hN : 0 < N.length)
    (hb : ∀ (cdv : Value) (A : Around) (outer : List Env) (s : Shared) (H : Hp) (E : XK), Room k (A.deeper (envOfC qual (defScope st) s.heap.objs.size f cdv)) →
      DSs (cxOf CX0 P w K mg base N qual (defScope st) f cdv A outer s H E).nox W0 (defBody st) body) : FnOk P w K mg base CX0 (k + 1) f fd ps (spW K ps.length (runW N.length body)) := by
  refine F.ok S (fun vs H Q E h => ?_) (fun cdv A outer s H vs Q E hr h => ?_)
  · obtain ⟨a, k, ns, vs', ds, Z, F, rfl, hl, r, _⟩ := h
    rw [List.length_cons, r.length]
    exact hl
  · obtain ⟨a, k, ns, vs', ds, Z, F, rfl, hl, r, h, q⟩ := h
    refine ⟨_, hb cdv A outer s H E hr, .drw a k ns :: startS ds (N.length - 1), Z, F, startHW h r hN, ?_⟩
    unfold runW outW at q
    cases e : body (.drw a k ns :: startS ds (N.length - 1)) with
    | rt d S' =>
      rw [e] at q
      match S', q with
      | [], q => exact q.elim
      | .un :: _, q => exact q.elim
      | .dat _ :: _, q => exact q.elim
      | .own _ :: _, q => exact q.elim
      | .dic _ _ :: _, q => exact q.elim
      | .obj _ _ _ _ _ :: _, q => exact q.elim
      | .drw a' k' ns' :: S', q =>
        by_cases ea : a' = a
        · subst ea
          simp only [if_true] at q
          intro σ' c' v st' h' rv
          obtain ⟨F', sub, h2⟩ := h'.first
          exact q ⟨c'.Z, c'.H, F'⟩ v (st'.trans (Stp.sub sub)) h2 rv
        · simp only [if_neg ea] at q
    | nx S' => rw [e] at q; exact q.elim
    | bk S' => rw [e] at q; exact q.elim
    | ct S' => rw [e] at q; exact q.elim
    | ex x S' => rw [e] at q; exact q.elim
    | bad => rw [e] at q; exact q.elim
end

/-! ### calls -/
section
variable {X : Cx} {W : WX} {pos p : Pos} {x : Str} {e : Expr} {es : List Expr}
def rs0 : Rs → EM D
  | .ok d => eRet d
  | _ => fun _ => .bad
def rsX : Rs → EM D
  | .ok d => eRet d
  | .ex e => fun S => .ex e S
  | .bad => fun _ => .bad
/-- a call of a def that raises nothing; of one that may -/
def eCall (m : Nat) (g : List D → Rs) (fa : EM (List D)) : EM D := eBind fa fun ds => if ds.length = m then rs0 (g ds) else fun _ => .bad
def eCallX (m : Nat) (g : List D → Rs) (fa : EM (List D)) : EM D := eBind fa fun ds => if ds.length = m then rsX (g ds) else fun _ => .bad
theorem Holds.afterC {K : PySem.W.Frag} {S : List Slot} {σ : Sg} {c c' : Cfg} (h : Holds K S σ c) (st : Stp ⟨c.Z, c.H, []⟩ c') (z : Same c'.Z c'.H) : Stp c ⟨c'.Z, c'.H, c.F⟩ ∧ Holds K S σ ⟨c'.Z, c'.H, c.F⟩ := by
  have kk : ∀ b o, c.H b = some o → c'.H b = some o := fun b o q => st.k b o q (by simp)
  refine ⟨⟨st.z, fun b o q _ => kk b o q, fun b o q => ⟨o, kk b o q⟩, fun b o q => ?_, fun b m => .inl m⟩, ⟨HoldsL.tr (c := c) (c' := ⟨c'.Z, c'.H, c.F⟩) st.z h.l fun a m => ?_, h.nd, fun a m => ?_, z⟩⟩
  · rcases st.n b o q with z | z | z | z
    · exact .inl z
    · exact .inr (.inl z)
    · simp at z
    · exact .inr (.inr (.inr z))
  · obtain ⟨o, q, _⟩ := h.l.own a m
    show c'.H a = c.H a
    rw [kk a o q, q]
  · show c'.Z a = none
    cases q : c'.Z a with
    | none => rfl
    | some o =>
      obtain ⟨o', q', q2⟩ := h.l.own a m
      rcases st.n a o q with z | z | z | ⟨xs, z⟩
      · have z' : c.Z a = some o := z
        rw [h.zf a m] at z'
        cases z'
      · have z' : c.H a = none := z
        rw [q'] at z'
        cases z'
      · simp at z
      · have z' : c.H a = some (.tup xs) := z
        rw [q'] at z'
        exact absurd (Option.some.inj z') (q2 _)
theorem de_call {k m : Nat} {f : Addr} {fd : FuncData} {ps : List Str} {g : List D → Rs} {fa : EM (List D)} (F : FnOk X.prog X.w X.K X.mg X.base CX0 k f fd ps (spD0 X.K m g)) (hr : Room k X.A) (hg : Gl X x) (hm : X.mg x = some (.ref f)) (hk : PySem.W.keepIn X.K (.ref f) = true) (hb : Binds X.K fd ps [])
    (ha : DA X W (e :: es) fa) (hdb : (x == ("__debug__" : Str)) = false := by decide) (he : starEach (e :: es) X.env = (false, eval e X.env) :: starEach es X.env := by rfl) (hpl : (backTo pos (starEach es X.env)).any (·.1) = false := by rfl) :
    DE X W (.Call (.Name x p) (e :: es) [] pos) (eCall m g fa) := by
  refine PE.wk (pe_call (E := E0) F hr hg hm hk hb .nil pass0 ha hdb he hpl) fun σ H Q q => ?_
  obtain ⟨S, Z, F, h, q⟩ := q
  refine ⟨S, Z, F, h, (Go.bind q).mono fun ds S1 c1 s1 h1 q1 vs rs => ?_⟩
  by_cases hl : ds.length = m
  · rw [if_pos hl] at q1
    refine ⟨ds, c1.Z, hl, h1.zh, by rw [List.append_nil]; exact rs, ?_⟩
    cases eg : g ds with
    | bad => rw [eg] at q1; exact q1.elim
    | ex y => rw [eg] at q1; exact q1.elim
    | ok d =>
      rw [eg] at q1
      intro c' v st z rv
      obtain ⟨s2, h2⟩ := h1.afterC st z
      exact q1 _ s2 h2 v rv
  · rw [if_neg hl] at q1
    exact q1.elim
theorem de_callX {k m : Nat} {f : Addr} {fd : FuncData} {ps : List Str} {g : List D → Rs} {fa : EM (List D)} (tk : Takes X W) (F : FnOk X.prog X.w X.K X.mg X.base (L2.CX X.prog X.w) k f fd ps (spDX X.K X.mg m g)) (hr : Room k X.A) (hg : Gl X x) (hm : X.mg x = some (.ref f)) (hk : PySem.W.keepIn X.K (.ref f) = true) (hb : Binds X.K fd ps [])
    (ha : DA X W (e :: es) fa) (hdb : (x == ("__debug__" : Str)) = false := by decide) (he : starEach (e :: es) X.env = (false, eval e X.env) :: starEach es X.env := by rfl) (hpl : (backTo pos (starEach es X.env)).any (·.1) = false := by rfl) :
    DE X W (.Call (.Name x p) (e :: es) [] pos) (eCallX m g fa) := by
  refine PE.wk (pe_callS F hr hg hm hk hb (fun σ => passAt tk σ) ha hdb he hpl) fun σ H Q q => ?_
  obtain ⟨S, Z, F, h, q⟩ := q
  refine ⟨S, Z, F, h, (Go.bind q).mono fun ds S1 c1 s1 h1 q1 vs rs => ?_⟩
  by_cases hl : ds.length = m
  · rw [if_pos hl] at q1
    refine ⟨ds, c1.Z, hl, h1.zh, rs, ?_⟩
    cases eg : g ds with
    | bad => rw [eg] at q1; exact q1.elim
    | ex y =>
      rw [eg] at q1
      intro c' cls dx st z xo
      obtain ⟨s2, h2⟩ := h1.afterC st z
      exact q1 ⟨c'.Z, c'.H, c1.F⟩ cls dx s2 h2 xo
    | ok d =>
      rw [eg] at q1
      intro c' v st z rv
      obtain ⟨s2, h2⟩ := h1.afterC st z
      exact q1 _ s2 h2 v rv
  · rw [if_neg hl] at q1
    exact q1.elim
/-- a call that draws: the state is the first argument, in slot i -/
def eCallW (i m : Nat) (g : Addr → Int → List Int → List D → Rw) (fa : EM (List D)) : EM D := fun S0 => match S0[i]? with
  | some (.drw _ _ _) => eBind fa (fun ds S => match S[i]? with
    | some (.drw a k ns) => if ds.length + 1 = m then (match g a k ns ds with
      | .ok d k' ns' => .ok d (S.set i (.drw a k' ns'))
      | .bad => .bad) else .bad
    | _ => .bad) S0
  | _ => .bad
theorem Holds.drwAt {K : PySem.W.Frag} {S : List Slot} {σ : Sg} {c : Cfg} {i : Nat} {a : Addr} {k : Int} {ns : List Int} (h : Holds K S σ c) (e : S[i]? = some (.drw a k ns)) : σ[i]? = some (some (V.ref a)) := by
  obtain ⟨A, Fi, B, x, _, e2, ⟨_, _, e3, _⟩, _⟩ := h.l.at e
  subst e3
  exact e2
/-- behind a call that changed the state in slot i -/
theorem Holds.drwSet {K : PySem.W.Frag} {S : List Slot} {σ : Sg} {c : Cfg} {i : Nat} {a : Addr} {k : Int} {ns : List Int} (h : Holds K S σ c) (e : S[i]? = some (.drw a k ns)) :
    ∃ Fi, Holds K [.drw a k ns] [some (.ref a)] ⟨c.Z, c.H, Fi⟩ ∧ ∀ c' k' ns', Stp ⟨c.Z, c.H, Fi⟩ c' → Holds K [.drw a k' ns'] [some (.ref a)] c' →
      ∃ F', Stp c ⟨c'.Z, c'.H, F'⟩ ∧ Holds K (S.set i (.drw a k' ns')) σ ⟨c'.Z, c'.H, F'⟩ := by
  have e2 := h.drwAt e
  obtain ⟨A, Fi, B, x, e1, e2', o, up⟩ := h.l.at e
  rw [e2] at e2'
  cases e2'
  have nd := h.nd
  rw [e1] at nd
  have inF : ∀ b ∈ Fi, b ∈ c.F := fun b m => by
    rw [e1]
    simp [m]
  have inAB : ∀ b ∈ A ++ B, b ∈ c.F ∧ b ∉ Fi := fun b m => by
    refine ⟨?_, ?_⟩
    · rw [e1]
      simp at m ⊢
      rcases m with m | m <;> simp [m]
    · simp only [List.nodup_append, List.mem_append] at nd m
      grind
  refine ⟨Fi, ⟨?_, ?_, fun b m => h.zf b (inF b m), h.zh⟩, fun c' k' ns' st h' => ?_⟩
  · have q : HoldsL K ⟨c.Z, c.H, Fi⟩ [.drw a k ns] [some (.ref a)] (Fi ++ []) := .cons (o.tr (Same.refl _) fun _ _ => rfl) .nil
    rw [List.append_nil] at q
    exact q
  · show Fi.Nodup
    simp only [List.nodup_append] at nd
    exact nd.2.1.1
  · have keep : ∀ b ∈ A ++ B, c'.H b = c.H b := fun b m => by
      obtain ⟨m1, m2⟩ := inAB b m
      obtain ⟨o, q, _⟩ := h.l.own b m1
      rw [st.k b o q m2, q]
    refine ⟨A ++ (c'.F ++ B), ⟨st.z, fun b o q hn => st.k b o q fun m => hn (inF b m), st.t, fun b o q => ?_, fun b m => ?_⟩, ⟨?_, ?_, fun b m => ?_, h'.zh⟩⟩
    · rcases st.n b o q with z | z | z | z
      · exact .inl z
      · exact .inr (.inl z)
      · exact .inr (.inr (.inl (inF b z)))
      · exact .inr (.inr (.inr z))
    · have m' : b ∈ A ++ (c'.F ++ B) := m
      simp only [List.mem_append] at m'
      rcases m' with m' | m' | m'
      · exact .inl (inAB b (by simp [m'])).1
      · rcases st.f b m' with z | z
        · exact .inl (inF b z)
        · exact .inr z
      · exact .inl (inAB b (by simp [m'])).1
    · have q := up ⟨c'.Z, c'.H, A ++ (c'.F ++ B)⟩ (.drw a k' ns') (some (.ref a)) c'.F st.z keep h'.one
      rw [list_set_self e2] at q
      exact q
    · show (A ++ (c'.F ++ B)).Nodup
      have dis : ∀ b ∈ A ++ B, b ∉ c'.F := fun b m m2 => by
        obtain ⟨m1, m3⟩ := inAB b m
        obtain ⟨o, q, _⟩ := h.l.own b m1
        rcases st.f b m2 with z | z
        · exact m3 z
        · have z' : c.H b = none := z
          rw [q] at z'
          cases z'
      have nd' := h'.nd
      simp only [List.nodup_append, List.mem_append] at nd dis ⊢
      grind
    · have m' : b ∈ A ++ (c'.F ++ B) := m
      have zAB : ∀ b ∈ A ++ B, c'.Z b = none := fun b m => by
        obtain ⟨m1, m3⟩ := inAB b m
        cases q : c'.Z b with
        | none => rfl
        | some o =>
          obtain ⟨o', q', q2⟩ := h.l.own b m1
          rcases st.n b o q with z | z | z | ⟨xs, z⟩
          · have z' : c.Z b = some o := z
            rw [h.zf b m1] at z'
            cases z'
          · have z' : c.H b = none := z
            rw [q'] at z'
            cases z'
          · exact absurd z m3
          · have z' : c.H b = some (.tup xs) := z
            rw [q'] at z'
            exact absurd (Option.some.inj z') (q2 _)
      simp only [List.mem_append] at m' zAB
      rcases m' with m' | m' | m'
      · exact zAB b (.inl m')
      · exact h'.zf b m'
      · exact zAB b (.inr m')
theorem de_callW (i : Nat) {k m : Nat} {f : Addr} {fd : FuncData} {ps : List Str} {g : Addr → Int → List Int → List D → Rw} {fa : EM (List D)} {y : Str} {p2 : Pos} (F : FnOk X.prog X.w X.K X.mg X.base CX0 k f fd ps (spW X.K m g)) (hr : Room k X.A) (hg : Gl X x) (hm : X.mg x = some (.ref f)) (hk : PySem.W.keepIn X.K (.ref f) = true) (hb : Binds X.K fd ps [])
    (ha : DA X W es fa) (hN : X.N[i]? = some y := by rfl) (hv : Vis X.env.scope y := by first | exact Or.inl rfl | exact Or.inr (Or.inl rfl) | exact Or.inr (Or.inr rfl)) (hd : (y == ("__debug__" : Str)) = false := by decide) (hcd : (y == ("__classdict__" : Str)) = false := by decide)
    (hs : starEach (.Name y p2 :: es) X.env = (false, eval (.Name y p2) X.env) :: starEach es X.env := by rfl) (hdb : (x == ("__debug__" : Str)) = false := by decide) (hpl : (backTo pos (starEach es X.env)).any (·.1) = false := by rfl) :
    DE X W (.Call (.Name x p) (.Name y p2 :: es) [] pos) (eCallW i m g fa) := by
  refine PE.wk (pe_call (E := E0) F hr hg hm hk hb .nil pass0 (pa_cons (pe_var hN hv hd hcd) ha hs) hdb hs hpl) fun σ H Q q => ?_
  obtain ⟨S, Z, F, h, q⟩ := q
  unfold eCallW at q
  split at q
  · rename_i a0 k0 ns0 e0
    refine ⟨.ref a0, h.drwAt e0, S, Z, F, h, (Go.bind q).mono fun ds S1 c1 s1 h1 q1 vs rs => ?_⟩
    split at q1
    · rename_i a1 k1 ns1 e1
      have ea : a1 = a0 := by
        have z1 := h1.drwAt e1
        rw [h.drwAt e0] at z1
        cases z1
        rfl
      subst ea
      by_cases hl : ds.length + 1 = m
      · rw [if_pos hl] at q1
        obtain ⟨Fi, hs, back⟩ := h1.drwSet e1
        show spW X.K m g ((V.ref a1 :: vs) ++ []) c1.H Q E0
        rw [List.append_nil]
        refine ⟨a1, k1, ns1, vs, ds, c1.Z, Fi, rfl, hl, rs, hs, ?_⟩
        cases eg : g a1 k1 ns1 ds with
        | bad => simp only [eg] at q1; exact q1.elim
        | ok d k' ns' =>
          simp only [eg] at q1
          intro c' v st h' rv
          obtain ⟨F', s2, h2⟩ := back c' k' ns' st h'
          exact q1 ⟨c'.Z, c'.H, F'⟩ s2 h2 v rv
      · rw [if_neg hl] at q1
        exact q1.elim
    · exact q1.elim
  · exact q.elim
end
end FW

/-! FwM: dicts as data. -/
namespace FW
open PySem PySem.Spec L2
open PyProof.Rows hiding St
def sameK1 : D → D → Bool
  | .int i, .int j => decide (i = j)
  | .str x, .str y => decide (x = y)
  | _, _ => false
def sameKs : List D → List D → Bool
  | [], [] => true
  | a :: as, b :: bs => sameK1 a b && sameKs as bs
  | _, _ => false
def sameK : D → D → Bool
  | .tuple xs, .tuple ys => sameKs xs ys
  | a, b => sameK1 a b
def isK1 : D → Bool
  | .int _ => true
  | .str _ => true
  | _ => false
def isKey : Bool → D → Bool
  | false, d => isK1 d
  | true, .tuple ds => ds.all isK1
  | true, _ => false
theorem sameK1_kD (a b : Key) : sameK1 (kD a) (kD b) = decide (a = b) := by
  cases a <;> cases b <;> simp [kD, sameK1]
theorem sameK_kD (a b : Key) : sameK (kD a) (kD b) = decide (a = b) := by
  rw [← sameK1_kD]
  cases a <;> cases b <;> rfl
theorem sameKs_kD : ∀ a b : List Key, sameKs (a.map kD) (b.map kD) = decide (a = b)
  | [], [] => by simp [sameKs]
  | [], _ :: _ => by simp [sameKs]
  | _ :: _, [] => by simp [sameKs]
  | x :: a, y :: b => by
    rw [List.map_cons, List.map_cons, sameKs, sameKs_kD a b, sameK1_kD]
    simp
theorem sameK_kTD (a b : List Key) : sameK (kTD a) (kTD b) = decide (a = b) := sameKs_kD a b
theorem isK1_get {d : D} (h : isK1 d = true) : ∃ k, d = kD k := by
  cases d with
  | int i => exact ⟨.inl i, rfl⟩
  | str x => exact ⟨.inr x, rfl⟩
  | _ => cases h
theorem isK1_all : ∀ {ds : List D}, ds.all isK1 = true → ∃ ks : List Key, ds = ks.map kD
  | [], _ => ⟨[], rfl⟩
  | d :: ds, h => by
    rw [List.all_cons, Bool.and_eq_true] at h
    obtain ⟨k, rfl⟩ := isK1_get h.1
    obtain ⟨ks, rfl⟩ := isK1_all h.2
    exact ⟨k :: ks, rfl⟩
theorem isK1_kD (k : Key) : isK1 (kD k) = true := by cases k <;> rfl
theorem isKey_t {d : D} (h : isKey true d = true) : ∃ ks, d = kTD ks := by
  cases d with
  | tuple ds =>
    obtain ⟨ks, rfl⟩ := isK1_all h
    exact ⟨ks, rfl⟩
  | _ => cases h
theorem Rp.keyV {K : PySem.W.Frag} {Z : Hp} {y : V} {k : Key} (h : Rp K Z y (kD k)) : y = kV k := by
  cases k with
  | inl i => cases h; rfl
  | inr x => cases h; rfl
theorem RpA.keyV {K : PySem.W.Frag} {Z : Hp} : ∀ {ks : List Key} {vs : List V}, RpA K Z vs (ks.map kD) → vs = ks.map kV
  | [], _, h => by cases h; rfl
  | k :: ks, _, h => by
    cases h with
    | cons h1 h2 => rw [h1.keyV, RpA.keyV h2]; rfl
theorem RpA.ofKey {K : PySem.W.Frag} {Z : Hp} : ∀ ks : List Key, RpA K Z (ks.map kV) (ks.map kD)
  | [] => .nil
  | .inl i :: ks => .cons (.int i) (RpA.ofKey ks)
  | .inr x :: ks => .cons (.str x) (RpA.ofKey ks)
theorem Rp.keyT {K : PySem.W.Frag} {Z : Hp} {y : V} {ks : List Key} (h : Rp K Z y (kTD ks)) : ∃ b, y = .ref b ∧ Z b = some (.tup (ks.map kV)) := by
  unfold kTD at h
  cases h with
  | tup h1 h2 =>
    rw [h2.keyV] at h1
    exact ⟨_, rfl, h1⟩
/-! ### tables -/
def esGet (es : List (D × D)) (k : D) : Option D := (es.find? fun p => sameK p.1 k).map (·.2)
def esHas (es : List (D × D)) (k : D) : Bool := es.any fun p => sameK p.1 k
def esPut (es : List (D × D)) (k v : D) : List (D × D) := if esHas es k then es.map (fun p => if sameK p.1 k then (p.1, v) else p) else es ++ [(k, v)]
theorem esHas_get (es : List (D × D)) (k : D) : esHas es k = (esGet es k).isSome := by
  unfold esHas esGet
  induction es with
  | nil => rfl
  | cons p r ih =>
    cases e : sameK p.1 k with
    | true => simp [List.any_cons, List.find?_cons, e]
    | false =>
      rw [List.any_cons, List.find?_cons, e]
      exact ih
/-- both nothing, or both the same -/
inductive RpO (K : PySem.W.Frag) (Z : Hp) : Option V → Option D → Prop
  | no : RpO K Z none none
  | so {v : V} {d : D} : Rp K Z v d → RpO K Z (some v) (some d)
theorem RpO.isSome {K : PySem.W.Frag} {Z : Hp} {o : Option V} {u : Option D} (h : RpO K Z o u) : o.isSome = u.isSome := by cases h <;> rfl
theorem RpO.some {K : PySem.W.Frag} {Z : Hp} {o : Option V} {d : D} (h : RpO K Z o (some d)) : ∃ v, o = some v ∧ Rp K Z v d := by
  cases h with
  | so h => exact ⟨_, rfl, h⟩
theorem RpO.getD {K : PySem.W.Frag} {Z : Hp} {o : Option V} {u : Option D} {x : V} {d : D} (h : RpO K Z o u) (r : Rp K Z x d) : Rp K Z (o.getD x) (u.getD d) := by
  cases h with
  | no => exact r
  | so h => exact h
section
variable {K : PySem.W.Frag} {Z : Hp} {κ : Type} [DecidableEq κ] {enc : κ → D}
theorem tab_get (hE : ∀ a b, sameK (enc a) (enc b) = decide (a = b)) (k : κ) : ∀ {ks : List κ} {vs : List V} {ds : List D}, ks.length = ds.length → RpA K Z vs ds → RpO K Z (valV (ks.zip vs) k) (esGet ((ks.map enc).zip ds) (enc k))
  | [], _, _, _, _ => by simp [valV, esGet]; exact .no
  | _ :: _, _, [], h, _ => by simp at h
  | k' :: ks, _, d :: ds, h, .cons (v := v) (vs := vs) r rs => by
    have ih := tab_get hE k (ks := ks) (ds := ds) (by simpa using h) rs
    rw [List.zip_cons_cons, List.map_cons, List.zip_cons_cons]
    by_cases e : k' = k
    · rw [valV_pos e]
      unfold esGet
      rw [List.find?_cons_of_pos (by simp [hE, e])]
      exact .so r
    · rw [valV_neg e]
      unfold esGet at ih ⊢
      rw [List.find?_cons_of_neg (by simp [hE, e])]
      exact ih
theorem tab_repl (hE : ∀ a b, sameK (enc a) (enc b) = decide (a = b)) (k : κ) {v : V} {d : D} (r : Rp K Z v d) : ∀ {ks : List κ} {vs : List V} {ds : List D}, ks.length = ds.length → RpA K Z vs ds →
    ∃ vs' ds', ((ks.zip vs).map fun kv => if kv.1 = k then (kv.1, v) else kv) = ks.zip vs' ∧ ks.length = ds'.length ∧ RpA K Z vs' ds' ∧ (((ks.map enc).zip ds).map fun p => if sameK p.1 (enc k) then (p.1, d) else p) = (ks.map enc).zip ds'
  | [], _, _, h, q => ⟨[], [], by simp, by simp, .nil, by simp⟩
  | _ :: _, _, [], h, _ => by simp at h
  | k' :: ks, _, d0 :: ds, h, .cons (v := v0) (vs := vs) r0 rs => by
    obtain ⟨vs', ds', e1, e2, e3, e4⟩ := tab_repl hE k r (ks := ks) (ds := ds) (by simpa using h) rs
    by_cases e : k' = k
    · refine ⟨v :: vs', d :: ds', ?_, by simp [e2], .cons r e3, ?_⟩
      · rw [List.zip_cons_cons, List.map_cons, e1, List.zip_cons_cons]
        simp [e]
      · rw [List.map_cons, List.zip_cons_cons, List.map_cons, e4, List.zip_cons_cons]
        simp [hE, e]
    · refine ⟨v0 :: vs', d0 :: ds', ?_, by simp [e2], .cons r0 e3, ?_⟩
      · rw [List.zip_cons_cons, List.map_cons, e1, List.zip_cons_cons]
        simp [e]
      · rw [List.map_cons, List.zip_cons_cons, List.map_cons, e4, List.zip_cons_cons]
        simp [hE, e]
theorem tab_put (hE : ∀ a b, sameK (enc a) (enc b) = decide (a = b)) (k : κ) {v : V} {d : D} (r : Rp K Z v d) {ks : List κ} {vs : List V} {ds : List D} (hl : ks.length = ds.length) (rs : RpA K Z vs ds) :
    ∃ (ks' : List κ) (vs' : List V) (ds' : List D), putK (ks.zip vs) k v = ks'.zip vs' ∧ ks'.length = ds'.length ∧ RpA K Z vs' ds' ∧ esPut ((ks.map enc).zip ds) (enc k) d = (ks'.map enc).zip ds' := by
  have g := tab_get hE k hl rs
  unfold putK esPut
  rw [esHas_get, ← g.isSome, valV_any]
  by_cases e : (valV (ks.zip vs) k).isSome = true
  · obtain ⟨vs', ds', e1, e2, e3, e4⟩ := tab_repl hE k r hl rs
    rw [if_pos e, if_pos e]
    exact ⟨ks, vs', ds', e1, e2, e3, e4⟩
  · rw [if_neg e, if_neg e]
    have lv := rs.length
    refine ⟨ks ++ [k], vs ++ [v], ds ++ [d], ?_, by simp [hl], rs.append (.cons r .nil), ?_⟩
    · rw [List.zip_append (by omega)]
      rfl
    · rw [List.map_append, List.zip_append (by simp [hl])]
      rfl
end
section
variable {K : PySem.W.Frag}
theorem DicAt.len {Z : Hp} {o : Option HO} : ∀ {t : Bool} {es : List (D × D)}, DicAt K Z o t es → (∃ kvs : List (Key × V), o = some (.dK kvs) ∧ kvs.length = es.length) ∨ ∃ kvs : List (List Key × V), o = some (.dT kvs) ∧ kvs.length = es.length
  | false, _, ⟨ks, vs, ds, h1, h2, h3, h4⟩ => .inl ⟨_, h1, by subst h4; simp [h3.length]⟩
  | true, _, ⟨ks, vs, ds, h1, h2, h3, h4⟩ => .inr ⟨_, h1, by subst h4; simp [h3.length]⟩
theorem DicAt.get {Z H : Hp} {a : Addr} {u : HO} {y : V} {k : D} (sm : Same Z H) (hr : Rd H a u) : ∀ {t : Bool} {es : List (D × D)}, DicAt K Z (some u) t es → isKey t k = true → Rp K Z y k → ∃ o, DGet H a y o ∧ RpO K Z o (esGet es k)
  | false, _, ⟨ks, vs, ds, h1, h2, h3, h4⟩, hk, r => by
    obtain ⟨k', rfl⟩ := isK1_get hk
    cases h1
    subst h4
    exact ⟨_, .inl ⟨_, k', hr, r.keyV, rfl⟩, tab_get sameK_kD k' h2 h3⟩
  | true, _, ⟨ks, vs, ds, h1, h2, h3, h4⟩, hk, r => by
    obtain ⟨k', rfl⟩ := isKey_t hk
    cases h1
    subst h4
    obtain ⟨b, rfl, hb⟩ := r.keyT
    exact ⟨_, .inr ⟨_, k', b, hr, rfl, sm _ _ hb, rfl⟩, tab_get sameK_kTD k' h2 h3⟩
theorem DicAt.put {Z H : Hp} {a : Addr} {y v : V} {k d : D} (sm : Same Z H) : ∀ {t : Bool} {es : List (D × D)}, DicAt K Z (H a) t es → isKey t k = true → Rp K Z y k → Rp K Z v d → es.length < sizeLine →
    ∃ u, DPut H a y v (upd H a u) ∧ DicAt K Z (some u) t (esPut es k d)
  | false, _, ⟨ks, vs, ds, h1, h2, h3, h4⟩, hk, r, rv, hl => by
    obtain ⟨k', rfl⟩ := isK1_get hk
    subst h4
    obtain ⟨ks', vs', ds', e1, e2, e3, e4⟩ := tab_put sameK_kD k' rv h2 h3
    refine ⟨_, .inl ⟨_, k', h1, r.keyV, ?_, rfl⟩, ks', vs', ds', by rw [e1], e2, e3, e4⟩
    simp [h3.length] at hl ⊢
    omega
  | true, _, ⟨ks, vs, ds, h1, h2, h3, h4⟩, hk, r, rv, hl => by
    obtain ⟨k', rfl⟩ := isKey_t hk
    subst h4
    obtain ⟨b, rfl, hb⟩ := r.keyT
    obtain ⟨ks', vs', ds', e1, e2, e3, e4⟩ := tab_put sameK_kTD k' rv h2 h3
    refine ⟨_, .inr ⟨_, k', b, h1, rfl, sm _ _ hb, ?_, rfl⟩, ks', vs', ds', by rw [e1], e2, e3, e4⟩
    simp [h3.length] at hl ⊢
    omega
/-- data that is a dict -/
def dicOf : D → Option (Bool × List (D × D))
  | .dict ((.list [.none], .none) :: es) => some (true, es)
  | .dict ((.list [], _) :: _) => none
  | .dict es => some (false, es)
  | _ => none
theorem dicOf_false {ks : List Key} {ds : List D} : dicOf (.dict ((ks.map kD).zip ds)) = some (false, (ks.map kD).zip ds) := by
  cases ks with
  | nil => rfl
  | cons k ks =>
    cases ds with
    | nil => rfl
    | cons d ds => cases k <;> rfl
theorem dicOf_dictD {Z : Hp} {o : Option HO} : ∀ {t : Bool} {es : List (D × D)}, DicAt K Z o t es → dicOf (dictD t es) = some (t, es)
  | true, _, _ => rfl
  | false, _, ⟨ks, vs, ds, h1, h2, h3, h4⟩ => by subst h4; exact dicOf_false
theorem Lo.dicI {c : Cfg} {x : V} {d : D} {t : Bool} {es : List (D × D)} (sm : Same c.Z c.H) (h : Lo K c x d) (e : dicOf d = some (t, es)) : ∃ a u, x = .ref a ∧ Rd c.H a u ∧ DicAt K c.Z (some u) t es := by
  cases h with
  | z h =>
    cases h with
    | dk h1 h2 h3 =>
      rw [dicOf_false] at e
      cases e
      exact ⟨_, _, rfl, .inr ⟨_, sm _ _ h1⟩, _, _, _, rfl, h2, h3, rfl⟩
    | dt h1 h2 h3 =>
      cases e
      exact ⟨_, _, rfl, .inr ⟨_, sm _ _ h1⟩, _, _, _, rfl, h2, h3, rfl⟩
    | _ => cases e
  | o h1 h2 => cases e
  | d h1 =>
    rw [dicOf_dictD h1] at e
    cases e
    obtain ⟨u, e1, _⟩ := h1.obj
    exact ⟨_, u, rfl, .inl e1, by rw [← e1]; exact h1⟩
end
end FW

/-! FwF: operations. -/
namespace FW
open PySem PySem.Spec L2
open PyProof.Rows hiding St
section
variable {X : Cx} {W : WX} {pos : Pos}

/-! ### numbers -/
def intOp (g : Int → Int → Option Int) : D → D → Option D
  | .int i, .int j => (g i j).map PyData.int
  | _, _ => none
theorem intOp_some {g : Int → Int → Option Int} {a b d : D} (h : intOp g a b = some d) : ∃ i j k, a = .int i ∧ b = .int j ∧ g i j = some k ∧ d = .int k := by
  unfold intOp at h
  split at h
  · rename_i i j
    cases e : g i j with
    | none => rw [e] at h; cases h
    | some k =>
      rw [e] at h
      cases h
      exact ⟨i, j, k, rfl, rfl, e, rfl⟩
  · cases h
theorem opD_int {f : Value → Value → Sem Value} {C : Int → Int → Prop} {g : Int → Int → Int} {g' : Int → Int → Option Int} (h : OpR X f (rI C fun i j => .int (g i j))) (hg : ∀ i j k, g' i j = some k → C i j ∧ k = g i j) : OpD X W f (intOp g') := by
  refine ⟨_, h, fun x y a b d S σ c Q e hh ra rb q => ?_⟩
  obtain ⟨i, j, k, rfl, rfl, e2, rfl⟩ := intOp_some e
  cases ra.intI
  cases rb.intI
  obtain ⟨h1, rfl⟩ := hg i j k e2
  exact ⟨i, j, rfl, rfl, h1, q c _ (Stp.refl _) hh (.int _)⟩
theorem opD_int0 {f : Value → Value → Sem Value} {g : Int → Int → Int} {g' : Int → Int → Option Int} (h : OpR X f (rI0 fun i j => .int (g i j))) (hg : ∀ i j k, g' i j = some k → k = g i j) : OpD X W f (intOp g') := by
  refine ⟨_, h, fun x y a b d S σ c Q e hh ra rb q => ?_⟩
  obtain ⟨i, j, k, rfl, rfl, e2, rfl⟩ := intOp_some e
  cases ra.intI
  cases rb.intI
  cases hg i j k e2
  exact ⟨i, j, rfl, rfl, q c _ (Stp.refl _) hh (.int _)⟩
def subD : D → D → Option D := intOp fun i j => some (i - j)
theorem od_sub : OpD X W (binaryOp .Sub) subD := opD_int0 op_sub fun _ _ _ h => (Option.some.inj h).symm
def fdivD : D → D → Option D := intOp fun i j => if 0 < j ∧ j < 2 ^ 200 then some (i / j) else none
theorem od_fdiv : OpD X W (binaryOp .FloorDiv) fdivD := opD_int op_fdivW fun i j k h => by
  split at h
  · rename_i hj
    refine ⟨wide_div hj.1 (b := 200) ?_ (by decide) (by decide), (Option.some.inj h).symm⟩
    have h2 := hj.2
    have h1 := hj.1
    obtain ⟨n, rfl⟩ := Int.eq_ofNat_of_zero_le (Int.le_of_lt h1)
    show n < 2 ^ 200
    exact_mod_cast h2
  · cases h
def modD : D → D → Option D := intOp fun i j => if 0 < j then some (i % j) else none
theorem od_mod : OpD X W (binaryOp .Mod) modD := opD_int op_mod fun i j k h => by
  split at h
  · rename_i hj
    exact ⟨hj, (Option.some.inj h).symm⟩
  · cases h
def andD : D → D → Option D := intOp fun i j => some (Builtin.bitAnd i j)
theorem od_and : OpD X W (binaryOp .BitAnd) andD := opD_int0 op_and fun _ _ _ h => (Option.some.inj h).symm
def orD : D → D → Option D := intOp fun i j => some (Builtin.bitOr i j)
theorem od_or : OpD X W (binaryOp .BitOr) orD := opD_int0 op_or fun _ _ _ h => (Option.some.inj h).symm
def xorD : D → D → Option D := intOp fun i j => some (Builtin.bitXor i j)
theorem od_xor : OpD X W (binaryOp .BitXor) xorD := opD_int0 op_xor fun _ _ _ h => (Option.some.inj h).symm
def shlD : D → D → Option D := intOp fun i j => if 0 ≤ j ∧ j ≤ 1000000 ∧ i.natAbs < 2 ^ 64 then some (i * 2 ^ j.toNat) else none
theorem od_shl : OpD X W (binaryOp .LShift) shlD := opD_int op_shl fun i j k h => by
  split at h
  · rename_i hj
    exact ⟨hj, (Option.some.inj h).symm⟩
  · cases h
def shrD : D → D → Option D := intOp fun i j => if 0 ≤ j then some (i / 2 ^ j.toNat) else none
theorem od_shr : OpD X W (binaryOp .RShift) shrD := opD_int op_shr fun i j k h => by
  split at h
  · rename_i hj
    exact ⟨hj, (Option.some.inj h).symm⟩
  · cases h
/-- +: numbers, texts, tuples, lists -/
def addD : D → D → Option D
  | .int i, .int j => some (.int (i + j))
  | .str x, .str y => if x.length + y.length ≤ sizeLine then some (.str (x ++ y)) else none
  | .tuple xs, .tuple ys => if xs.length + ys.length ≤ sizeLine then some (.tuple (xs ++ ys)) else none
  | .list xs, .list ys => if xs.length + ys.length ≤ sizeLine then some (.list (xs ++ ys)) else none
  | _, _ => none
theorem Rp.tupI {K : PySem.W.Frag} {Z : Hp} {x : V} {ds : List D} (h : Rp K Z x (.tuple ds)) : ∃ a xs, x = .ref a ∧ SqT K Z a xs ∧ RpA K Z xs ds := by
  cases h with
  | tup h1 h2 => exact ⟨_, _, rfl, SqT.of h1, h2⟩
theorem Rp.tupS {K : PySem.W.Frag} {Z : Hp} {x : V} {ds : List D} (h : Rp K Z x (.tuple ds)) : ∃ a xs, x = .ref a ∧ Z a = some (.tup xs) ∧ RpA K Z xs ds := by
  cases h with
  | tup h1 h2 => exact ⟨_, _, rfl, h1, h2⟩
theorem Rp.lstI {K : PySem.W.Frag} {Z : Hp} {x : V} {ds : List D} (h : Rp K Z x (.list ds)) : ∃ a xs, x = .ref a ∧ Z a = some (.lst xs) ∧ RpA K Z xs ds := by
  cases h with
  | lst h1 h2 => exact ⟨_, _, rfl, h1, h2⟩
theorem RpA.nil_iff {K : PySem.W.Frag} {Z : Hp} {vs : List V} {ds : List D} (h : RpA K Z vs ds) : vs = [] ↔ ds = [] := by
  have := h.length
  constructor
  · rintro rfl
    exact List.eq_nil_of_length_eq_zero this.symm
  · rintro rfl
    exact List.eq_nil_of_length_eq_zero this
theorem od_add : OpD X W (binaryOp .Add) addD := by
  refine ⟨_, (op_add.or op_add_str).or (op_catA.or op_cat), fun x y a b d S σ c Q e hh ra rb q => ?_⟩
  unfold addD at e
  split at e
  · cases e
    cases ra.intI
    cases rb.intI
    exact .inl (.inl ⟨_, _, rfl, rfl, q c _ (Stp.refl _) hh (.int _)⟩)
  · split at e
    · rename_i hl
      cases e
      cases ra.strI
      cases rb.strI
      exact .inl (.inr ⟨_, _, rfl, rfl, hl, q c _ (Stp.refl _) hh (.str _)⟩)
    · cases e
  · split at e
    · rename_i hl
      cases e
      have ra' := ra.tupZ
      have rb' := rb.tupZ
      obtain ⟨p, xs, rfl, s1, r1⟩ := ra.tupI
      obtain ⟨p2, ys, rfl, s2, r2⟩ := rb.tupI
      refine .inr (.inl ⟨p, p2, xs, ys, rfl, rfl, sameT hh.zh s1, sameT hh.zh s2, by rw [r1.length, r2.length]; exact hl, fun e0 => ?_, fun e0 e1 => ?_, fun e0 e1 pn hp => ?_⟩)
      · have := (r1.nil_iff).mp e0
        subst this
        exact q c _ (Stp.refl _) hh rb'
      · have := (r2.nil_iff).mp e1
        subst this
        rw [List.append_nil] at q
        exact q c _ (Stp.refl _) hh ra'
      · obtain ⟨st, h2, r⟩ := hh.layT hp (r1.append r2)
        exact q _ _ st h2 r
    · cases e
  · split at e
    · rename_i hl
      cases e
      obtain ⟨p, xs, rfl, s1, r1⟩ := ra.lstI hh.zh
      obtain ⟨p2, ys, rfl, s2, r2⟩ := rb.lstI hh.zh
      refine .inr (.inr ⟨p, p2, xs, ys, rfl, rfl, s1, s2, by rw [r1.length, r2.length]; exact hl, fun pn hp => ?_⟩)
      obtain ⟨st, h2, r⟩ := hh.layL hp (r1.append r2)
      exact q _ _ st h2 r
    · cases e
  · cases e

/-! ### comparisons -/
def shal : Nat → D → Bool
  | 0, d => match d with
    | .list _ => false
    | .tuple _ => false
    | .dict _ => false
    | _ => true
  | n + 1, d => match d with
    | .list xs => xs.all (shal n)
    | .tuple xs => xs.all (shal n)
    | .dict _ => false
    | _ => true
theorem shalAll_depth {n : Nat} (ih : ∀ d, shal n d = true → PyData.depth d ≤ n) : ∀ xs : List D, xs.all (shal n) = true → PyData.depthAll xs ≤ n
  | [], _ => by simp [PyData.depthAll]
  | x :: xs, h => by
    rw [List.all_cons, Bool.and_eq_true] at h
    have h1 := ih x h.1
    have h2 := shalAll_depth ih xs h.2
    simp only [PyData.depthAll]
    omega
theorem shal_depth : ∀ (n : Nat) (d : D), shal n d = true → PyData.depth d ≤ n
  | 0, d, h => by cases d <;> first | exact Bool.noConfusion h | exact Nat.le_refl 0
  | n + 1, d, h => by
    cases d with
    | list xs =>
      have := shalAll_depth (shal_depth n) xs (by simpa [shal] using h)
      simp only [PyData.depth]
      omega
    | tuple xs =>
      have := shalAll_depth (shal_depth n) xs (by simpa [shal] using h)
      simp only [PyData.depth]
      omega
    | dict _ => simp [shal] at h
    | _ => simp [PyData.depth]
mutual
theorem noDict_plain : ∀ d : D, noDict d = true → d.plain = true
  | .none, _ => rfl
  | .bool _, _ => rfl
  | .int _, _ => rfl
  | .str _, _ => rfl
  | .list ds, h => noDictA_plain ds h
  | .tuple ds, h => noDictA_plain ds h
  | .dict _, h => by simp [noDict] at h
theorem noDictA_plain : ∀ ds : List D, noDictA ds = true → PyData.plainAll ds = true
  | [], _ => rfl
  | d :: ds, h => by
    simp only [noDictA, Bool.and_eq_true] at h
    simp [PyData.plainAll, noDict_plain d h.1, noDictA_plain ds h.2]
end
def rEqP (K : PySem.W.Frag) (u : Nat) (ng : Bool) : R2 := fun x y H Q => ∃ d e, Dp K H x d ∧ Dp K H y e ∧ d.plain = true ∧ e.plain = true ∧ u + min d.depth e.depth < cLine ∧ Q (.bl (if ng then !PyData.eqv d e else PyData.eqv d e)) H
theorem op_eqP : OpR X (compareOp .Eq) (rEqP X.K X.A.units false) := by
  intro pins s σ H x y v u Q I rx ry h
  obtain ⟨d, e, hd, he, pd, pe, hu, q⟩ := h
  obtain ⟨as, r1⟩ := Dp.reads I d x v hd rx
  obtain ⟨bs, r2⟩ := Dp.reads I e y u he ry
  exact SeqAt.eq_plain r1 r2 pd pe hu ⟨.bl _, H, I, rfl, q⟩
theorem op_neP : OpR X (compareOp .NotEq) (rEqP X.K X.A.units true) := by
  intro pins s σ H x y v u Q I rx ry h
  obtain ⟨d, e, hd, he, pd, pe, hu, q⟩ := h
  obtain ⟨as, r1⟩ := Dp.reads I d x v hd rx
  obtain ⟨bs, r2⟩ := Dp.reads I e y u he ry
  exact SeqAt.ne_plain r1 r2 pd pe hu ⟨.bl _, H, I, rfl, q⟩
def shal2 (a b : D) : Bool := shal 8 a || shal 8 b
theorem shal2_ok {a b : D} {u : Nat} (h : shal2 a b = true) (hu : u + 64 < cLine) : u + min a.depth b.depth < cLine := by
  unfold shal2 at h
  rw [Bool.or_eq_true] at h
  rcases h with h | h
  · have := shal_depth 8 a h
    omega
  · have := shal_depth 8 b h
    omega
/-- the two can be compared -/
def cmpOk (a b : D) : Bool := noDict a && noDict b && shal2 a b
def eqD (a b : D) : Option D := if cmpOk a b then some (.bool (PyData.eqv a b)) else none
def neD (a b : D) : Option D := if cmpOk a b then some (.bool (!PyData.eqv a b)) else none
theorem cmpOk_get {a b : D} (h : cmpOk a b = true) : noDict a = true ∧ noDict b = true ∧ shal2 a b = true := by
  unfold cmpOk at h
  rw [Bool.and_eq_true, Bool.and_eq_true] at h
  exact ⟨h.1.1, h.1.2, h.2⟩
theorem od_eq (hu : X.A.units + 64 < cLine) : OpD X W (compareOp .Eq) eqD := by
  refine ⟨_, op_eqP, fun x y a b d S σ c Q e hh ra rb q => ?_⟩
  unfold eqD at e
  split at e
  · rename_i hs
    obtain ⟨n1, n2, hs⟩ := cmpOk_get hs
    cases e
    exact ⟨a, b, ra.dp hh.zh n1, rb.dp hh.zh n2, noDict_plain a n1, noDict_plain b n2, shal2_ok hs hu, q c _ (Stp.refl _) hh (.bl _)⟩
  · cases e
theorem od_ne (hu : X.A.units + 64 < cLine) : OpD X W (compareOp .NotEq) neD := by
  refine ⟨_, op_neP, fun x y a b d S σ c Q e hh ra rb q => ?_⟩
  unfold neD at e
  split at e
  · rename_i hs
    obtain ⟨n1, n2, hs⟩ := cmpOk_get hs
    cases e
    exact ⟨a, b, ra.dp hh.zh n1, rb.dp hh.zh n2, noDict_plain a n1, noDict_plain b n2, shal2_ok hs hu, q c _ (Stp.refl _) hh (.bl _)⟩
  · cases e
def cmpI (g : Int → Int → Bool) : D → D → Option D
  | .int i, .int j => some (.bool (g i j))
  | _, _ => none
theorem od_cmpI {f : Value → Value → Sem Value} {g : Int → Int → Bool} (h : OpR X f (rI0 fun i j => .bl (g i j))) : OpD X W f (cmpI g) := by
  refine ⟨_, h, fun x y a b d S σ c Q e hh ra rb q => ?_⟩
  unfold cmpI at e
  split at e
  · cases e
    cases ra.intI
    cases rb.intI
    exact ⟨_, _, rfl, rfl, q c _ (Stp.refl _) hh (.bl _)⟩
  · cases e
def ltD : D → D → Option D := cmpI fun i j => decide (i < j)
def leD : D → D → Option D := cmpI fun i j => decide (i ≤ j)
def gtD : D → D → Option D := cmpI fun i j => decide (j < i)
def geD : D → D → Option D := cmpI fun i j => decide (j ≤ i)
theorem od_lt : OpD X W (compareOp .Lt) ltD := od_cmpI op_lt
theorem od_le : OpD X W (compareOp .LtE) leD := od_cmpI op_le
theorem od_gt : OpD X W (compareOp .Gt) gtD := od_cmpI op_gt
theorem od_ge : OpD X W (compareOp .GtE) geD := od_cmpI op_ge
/-- is, is not: None and truth values -/
def isD (a b : D) : Option D := match b with
  | .none => some (.bool (isNoneD a))
  | .bool y => match a with
    | .bool x => some (.bool (decide (x = y)))
    | _ => none
  | _ => none
def isntD (a b : D) : Option D := match b with
  | .none => some (.bool (!isNoneD a))
  | .bool y => match a with
    | .bool x => some (.bool (!decide (x = y)))
    | _ => none
  | _ => none
theorem od_is : OpD X W (compareOp .Is) isD := by
  refine ⟨_, op_isN.or op_isBl, fun x y a b d S σ c Q e hh ra rb q => ?_⟩
  unfold isD at e
  split at e
  · cases e
    cases rb.noneI
    refine .inl ⟨rfl, ?_⟩
    rw [ra.isNone]
    exact q c _ (Stp.refl _) hh (.bl _)
  · split at e
    · cases e
      cases ra.boolI
      cases rb.boolI
      exact .inr ⟨_, _, rfl, rfl, q c _ (Stp.refl _) hh (.bl _)⟩
    · cases e
  · cases e
theorem od_isnt : OpD X W (compareOp .IsNot) isntD := by
  refine ⟨_, op_notN.or op_notBl, fun x y a b d S σ c Q e hh ra rb q => ?_⟩
  unfold isntD at e
  split at e
  · cases e
    cases rb.noneI
    refine .inl ⟨rfl, ?_⟩
    rw [ra.isNone]
    exact q c _ (Stp.refl _) hh (.bl _)
  · split at e
    · cases e
      cases ra.boolI
      cases rb.boolI
      exact .inr ⟨_, _, rfl, rfl, q c _ (Stp.refl _) hh (.bl _)⟩
    · cases e
  · cases e
/-- in, not in: lists and tuples of data -/
def rInP (K : PySem.W.Frag) (u : Nat) (ng : Bool) : R2 := fun x y H Q => ∃ d ds, Dp K H x d ∧ (Dp K H y (.list ds) ∨ Dp K H y (.tuple ds)) ∧ d.plain = true ∧ PyData.plainAll ds = true ∧ u + 1 + min (PyData.depthAll ds) d.depth < cLine ∧
  Q (.bl (if ng then !ds.any fun z => PyData.eqv z d else ds.any fun z => PyData.eqv z d)) H
theorem op_inP : OpR X (compareOp .In) (rInP X.K X.A.units false) := by
  intro pins s σ H x y v u Q I rx ry h
  obtain ⟨d, ds, hd, he, pd, pe, hu, q⟩ := h
  obtain ⟨as, r1⟩ := Dp.reads I d x v hd rx
  rcases he with he | he
  · obtain ⟨bs, r2⟩ := Dp.reads I _ y u he ry
    exact SeqAt.in_list_data r2 r1 pe pd hu ⟨.bl _, H, I, rfl, q⟩
  · obtain ⟨bs, r2⟩ := Dp.reads I _ y u he ry
    exact SeqAt.in_tuple_data r2 r1 pe pd hu ⟨.bl _, H, I, rfl, q⟩
theorem op_notInP : OpR X (compareOp .NotIn) (rInP X.K X.A.units true) := by
  intro pins s σ H x y v u Q I rx ry h
  obtain ⟨d, ds, hd, he, pd, pe, hu, q⟩ := h
  obtain ⟨as, r1⟩ := Dp.reads I d x v hd rx
  rcases he with he | he
  · obtain ⟨bs, r2⟩ := Dp.reads I _ y u he ry
    exact SeqAt.notIn_list_data r2 r1 pe pd hu ⟨.bl _, H, I, rfl, q⟩
  · obtain ⟨bs, r2⟩ := Dp.reads I _ y u he ry
    exact SeqAt.notIn_tuple_data r2 r1 pe pd hu ⟨.bl _, H, I, rfl, q⟩
def itemsD : D → Option (List D)
  | .list ds => some ds
  | .tuple ds => some ds
  | _ => none
def inOk (ds : List D) (a : D) : Bool := noDict a && noDictA ds && shal 8 a
def inDic (d a : D) : Option Bool := (dicOf d).bind fun te => if isKey te.1 a then some (esHas te.2 a) else none
def inD (a b : D) : Option D := match b with
  | .dict es => (inDic (.dict es) a).map PyData.bool
  | b => (itemsD b).bind fun ds => if inOk ds a then some (.bool (ds.any fun z => PyData.eqv z a)) else none
def ninD (a b : D) : Option D := match b with
  | .dict es => (inDic (.dict es) a).map fun k => PyData.bool (!k)
  | b => (itemsD b).bind fun ds => if inOk ds a then some (.bool (!ds.any fun z => PyData.eqv z a)) else none
def rInDic (ng : Bool) : R2 := fun x y H Q => ∃ a o, y = .ref a ∧ DGet H a x o ∧ Q (.bl (if ng then !o.isSome else o.isSome)) H
theorem op_inDic (hu : X.A.units + 1 < cLine) : OpR X (compareOp .In) (rInDic false) := by
  intro pins s σ H x y v u Q I rx ry h
  obtain ⟨a, o, rfl, g, q⟩ := h
  cases (show u = Value.ref a from ry)
  exact d_in hu I g rx fun s' I' => ⟨.bl _, H, I', rfl, q⟩
theorem op_notInDic (hu : X.A.units + 1 < cLine) : OpR X (compareOp .NotIn) (rInDic true) := by
  intro pins s σ H x y v u Q I rx ry h
  obtain ⟨a, o, rfl, g, q⟩ := h
  cases (show u = Value.ref a from ry)
  exact d_notIn hu I g rx fun s' I' => ⟨.bl _, H, I', rfl, q⟩
theorem inDic_get {c : Cfg} {x y : V} {d a : D} {k : Bool} (sm : Same c.Z c.H) (e : inDic d a = some k) (ra : Rp X.K c.Z x a) (rb : Lo X.K c y d) : ∃ p o, y = .ref p ∧ DGet c.H p x o ∧ o.isSome = k := by
  obtain ⟨⟨t, es⟩, e1, e2⟩ := Option.bind_eq_some_iff.mp e
  dsimp only at e2
  split at e2
  · rename_i hk
    cases e2
    obtain ⟨p, u, rfl, hr, da⟩ := rb.dicI sm e1
    obtain ⟨o, g, ro⟩ := da.get sm hr hk ra
    exact ⟨p, o, rfl, g, by rw [ro.isSome, esHas_get]⟩
  · cases e2
theorem isKey_lo {c : Cfg} {x : V} {t : Bool} {d : D} (h : isKey t d = true) (r : Lo X.K c x d) : Rp X.K c.Z x d := by
  cases r with
  | z r => exact r
  | o h1 h2 => cases t <;> cases h
  | d h1 => cases t <;> cases h
theorem inDic_lo {c : Cfg} {x : V} {d a : D} {k : Bool} (e : inDic d a = some k) (r : Lo X.K c x a) : Rp X.K c.Z x a := by
  obtain ⟨⟨t, es⟩, e1, e2⟩ := Option.bind_eq_some_iff.mp e
  dsimp only at e2
  split at e2
  · rename_i hk
    exact isKey_lo hk r
  · cases e2
theorem Lo.items {K : PySem.W.Frag} {c : Cfg} {v : V} {b : D} {ds : List D} (sm : Same c.Z c.H) (h : Lo K c v b) (e : itemsD b = some ds) (n : noDictA ds = true) : Dp K c.H v (.list ds) ∨ Dp K c.H v (.tuple ds) := by
  cases b with
  | list es =>
    cases e
    exact .inl (h.dp sm n)
  | tuple es =>
    cases e
    exact .inr (h.dp sm n)
  | _ => cases e
theorem shal_in {ds : List D} {a : D} {u : Nat} (h : shal 8 a = true) (hu : u + 64 < cLine) : u + 1 + min (PyData.depthAll ds) a.depth < cLine := by
  have := shal_depth 8 a h
  omega
theorem inOk_get {ds : List D} {a : D} (h : inOk ds a = true) : noDict a = true ∧ noDictA ds = true ∧ shal 8 a = true := by
  unfold inOk at h
  rw [Bool.and_eq_true, Bool.and_eq_true] at h
  exact ⟨h.1.1, h.1.2, h.2⟩
theorem od_in (hu : X.A.units + 64 < cLine) : OpD X W (compareOp .In) inD := by
  refine ⟨_, (op_inDic (by omega)).or op_inP, fun x y a b d S σ c Q e hh ra rb q => ?_⟩
  unfold inD at e
  split at e
  · obtain ⟨k, e1, e2⟩ := Option.map_eq_some_iff.mp e
    cases e2
    obtain ⟨p, o, rfl, g, rfl⟩ := inDic_get hh.zh e1 (inDic_lo e1 ra) rb
    exact .inl ⟨p, o, rfl, g, q c _ (Stp.refl _) hh (.bl _)⟩
  refine .inr ?_
  obtain ⟨ds, e1, e2⟩ := Option.bind_eq_some_iff.mp e
  split at e2
  · rename_i hs
    obtain ⟨n1, n2, hs⟩ := inOk_get hs
    cases e2
    exact ⟨a, ds, ra.dp hh.zh n1, rb.items hh.zh e1 n2, noDict_plain a n1, noDictA_plain ds n2, shal_in hs hu, q c _ (Stp.refl _) hh (.bl _)⟩
  · cases e2
theorem od_nin (hu : X.A.units + 64 < cLine) : OpD X W (compareOp .NotIn) ninD := by
  refine ⟨_, (op_notInDic (by omega)).or op_notInP, fun x y a b d S σ c Q e hh ra rb q => ?_⟩
  unfold ninD at e
  split at e
  · obtain ⟨k, e1, e2⟩ := Option.map_eq_some_iff.mp e
    cases e2
    obtain ⟨p, o, rfl, g, rfl⟩ := inDic_get hh.zh e1 (inDic_lo e1 ra) rb
    exact .inl ⟨p, o, rfl, g, q c _ (Stp.refl _) hh (.bl _)⟩
  refine .inr ?_
  obtain ⟨ds, e1, e2⟩ := Option.bind_eq_some_iff.mp e
  split at e2
  · rename_i hs
    obtain ⟨n1, n2, hs⟩ := inOk_get hs
    cases e2
    exact ⟨a, ds, ra.dp hh.zh n1, rb.items hh.zh e1 n2, noDict_plain a n1, noDictA_plain ds n2, shal_in hs hu, q c _ (Stp.refl _) hh (.bl _)⟩
  · cases e2
end
end FW

/-! FwG: unary operators, chains, products, subscripts, slices, calls of built-ins, methods of lists. -/
namespace FW
open PySem PySem.Spec L2
open PyProof.Rows hiding St
section
variable {X : Cx} {W : WX} {pos : Pos}
def UnD (X : Cx) (W : WX) (f : Value → Sem Value) (g : D → Option D) : Prop := ∃ r : V → Hp → VK → Prop, UnR X f r ∧
  ∀ (x : V) (a d : D) (S : List Slot) (σ : Sg) (c : Cfg) (Q : VK), g a = some d → Holds X.K S σ c → Rp X.K c.Z x a → (∀ c' v, Stp c c' → Holds X.K S σ c' → Rp X.K c'.Z v d → Q v c'.H) → r x c.H Q
theorem de_un {op : UnaryOp} {g : D → Option D} {e : Expr} {f : EM D} (ho : UnD X W (unaryOp op) g) (he : DE X W e f) : DE X W (.UnaryOp op e pos) (eUn g f) := by
  obtain ⟨r, ho, hr⟩ := ho
  refine PE.wk (pe_un ho he) fun σ H Q q => ?_
  obtain ⟨S, Z, F, h, q⟩ := q
  refine ⟨S, Z, F, h, (Go.bind q).mono fun a S1 c1 s1 h1 q1 x rx => ?_⟩
  obtain ⟨d, e, k⟩ := Go.opt q1
  exact hr x a d S1 σ c1 Q e h1 rx fun c' v st hh rv => k c' st hh v rv
def negD : D → Option D
  | .int i => some (.int (-i))
  | _ => none
theorem ud_neg : UnD X W (unaryOp .USub) negD := by
  refine ⟨_, un_neg, fun x a d S σ c Q e hh ra q => ?_⟩
  unfold negD at e
  split at e
  · cases e
    cases ra
    exact ⟨_, rfl, q c _ (Stp.refl _) hh (.int _)⟩
  · cases e
/-- a < b < c -/
def eChain (g g' : D → D → Option D) (fa fb fc : EM D) : EM D := eBind fa fun a => eBind fb fun b => eBind (eOpt (g a b)) fun k => match k with
  | .bool true => eBind fc fun c => eOpt (g' b c)
  | .bool false => eRet (.bool false)
  | _ => fun _ => .bad
theorem chain_rd {r r' : R2} {g g' : D → D → Option D} {fa fb fc : EM D} (hr : ∀ (x y : V) (a b d : D) (S : List Slot) (σ : Sg) (c : Cfg) (Q : VK), g a b = some d → Holds X.K S σ c → Lo X.K c x a → Lo X.K c y b → (∀ c' v, Stp c c' → Holds X.K S σ c' → Rp X.K c'.Z v d → Q v c'.H) → r x y c.H Q)
    (hr' : ∀ (x y : V) (a b d : D) (S : List Slot) (σ : Sg) (c : Cfg) (Q : VK), g' a b = some d → Holds X.K S σ c → Lo X.K c x a → Lo X.K c y b → (∀ c' v, Stp c c' → Holds X.K S σ c' → Rp X.K c'.Z v d → Q v c'.H) → r' x y c.H Q) (σ : Sg) (H : Hp) (Q : VK)
    (q : tD (gx X W) (eChain g g' fa fb fc) σ H Q) : tChain r r' (tD (gx X W) fa) (tD (gx X W) fb) (tD (gx X W) fc) σ H Q := by
  obtain ⟨S, Z, F, h, q⟩ := q
  refine ⟨S, Z, F, h, (Go.bind q).mono fun a S1 c1 s1 h1 q1 x rx => ?_⟩
  refine ⟨S1, c1.Z, c1.F, h1, (Go.bind q1).mono fun b S2 c2 s2 h2 q2 y ry => ?_⟩
  obtain ⟨k, e, q3⟩ := Go.opt (Go.bind q2)
  refine hr x y a b k S2 σ c2 _ e h2 (.z (rx.mono s2.z)) (.z ry) fun c3 z s3 h3 rz => ?_
  have q4 := q3 c3 s3 h3
  cases k with
  | bool k =>
    cases rz
    refine ⟨k, rfl, ?_⟩
    cases k with
    | false => exact q4 _ (Stp.refl _) h3 _ (.bl _)
    | true =>
      refine iteT ?_
      refine ⟨S2, c3.Z, c3.F, h3, (Go.bind q4).mono fun cc S4 c4 s4 h4 q5 w rw' => ?_⟩
      obtain ⟨d, e, k⟩ := Go.opt q5
      exact hr' y w b cc d S4 σ c4 Q e h4 (.z ((ry.mono s3.z).mono s4.z)) (.z rw') fun c' v st hh rv => k c' st hh v rv
  | _ => exact q4.elim
theorem de_chain {op op' : CmpOp} {g g' : D → D → Option D} {a b c : Expr} {fa fb fc : EM D} (ho : OpD X W (compareOp op) g) (ho' : OpD X W (compareOp op') g') (ha : DE X W a fa) (hb : DE X W b fb) (hc : DE X W c fc) (hm : lastMarks [op, op'] [b, c] = false := by rfl) :
    DE X W (.Compare a [op, op'] [b, c] pos) (eChain g g' fa fb fc) := by
  obtain ⟨r, ho, hr⟩ := ho
  obtain ⟨r', ho', hr'⟩ := ho'
  exact PE.wk (pe_chain ho ho' ha hb hc (hm := hm)) (chain_rd hr hr')
theorem dt_chain {op op' : CmpOp} {g g' : D → D → Option D} {a b c : Expr} {fa fb fc : EM D} (ho : OpD X W (compareOp op) g) (ho' : OpD X W (compareOp op') g') (ha : DE X W a fa) (hb : DE X W b fb) (hc : DE X W c fc) (hm : lastMarks [op, op'] [b, c] = false := by rfl) :
    DT X W (.Compare a [op, op'] [b, c] pos) (bOf (eChain g g' fa fb fc)) := by
  obtain ⟨r, ho, hr⟩ := ho
  obtain ⟨r', ho', hr'⟩ := ho'
  exact PT.wk (pt_chain ho ho' ha hb hc (hm := hm)) fun σ H Q q => chain_rd hr hr' σ H _ (bof_rd σ H Q q)

/-! ### subscripts -/
def IxD (X : Cx) (W : WX) (g : D → D → Option D) : Prop := ∃ r : R2, IxR X r ∧
  ∀ (x y : V) (a b d : D) (S : List Slot) (σ : Sg) (c : Cfg) (Q : VK), g a b = some d → Holds X.K S σ c → Lo X.K c x a → Lo X.K c y b →
    (∀ c' v, Stp c c' → Holds X.K S σ c' → Rp X.K c'.Z v d → Q v c'.H) → r x y c.H Q
theorem de_ixG {g : D → D → Option D} {a b : Expr} {fa fb : EM D} (ho : IxD X W g) (ha : DE X W a fa) (hb : DE X W b fb) (hs : PlainIx b) : DE X W (.Subscript a b pos) (eBin g fa fb) := by
  obtain ⟨r, ho, hr⟩ := ho
  exact PE.wk (pe_ix ho ha (dl_e hb) hs) (bin_rd (ea := a) (eb := b) hr)
theorem subT_any {prog : Program} {w : World} {A : Around} {E : Value → Shared → Prop} {s : Shared} {value slice : Expr} {o i : Value} {T id : String} {Q : Value → Shared → Prop} (hT : s.TypeIs o T)
    (hl : typeLookup (.type T) "__getitem__" = pure (some (.builtin id))) (h : wpAny (model prog w) A (getItem o i) Q E s) (hs : subscripted slice false o i = operate [o, i] (getItem o i)) : wpAny (model prog w) A (subscriptTail value slice o i) Q E s := by
  unfold subscriptTail
  refine wpAny_bind ?_
  rw [getitemInPython_of_ne hT.not_modules]
  refine wpAny_bind (wpAny_specialOf hT hl ?_)
  have fin : wpAny (model prog w) A (subscripted slice false o i) (fun r s₃ => wpAny (model prog w) A (letTemporaryGo value o r >>= fun _ => pure r) Q E s₃) E s := by
    rw [hs]
    exact wpAny_operating (wpAny_mono h (fun r s₃ h₃ => wpAny_bind (wpAny_letTemporaryGo (wpAny_pure h₃))) fun _ _ x => x)
  first
    | exact wpAny_pure (wpAny_bind fin)
    | exact wpAny_bind (wpAny_pure (wpAny_bind fin))
    | exact wpAny_bind fin
def rIxDic : R2 := fun x y H Q => ∃ a v, x = .ref a ∧ DGet H a y (some v) ∧ Q v H
theorem ix_dic (hu : X.A.units + 1 < cLine) : IxR X rIxDic := by
  intro value slice pins s σ H x y v u Q I rx ry h hs
  obtain ⟨a, z, rfl, g, q⟩ := h
  cases (show v = Value.ref a from rx)
  exact subT_any (dict_typeIs I g) PySem.F.slot_dict_getitem.lookup (d_getItem hu I g ry fun w' s3 I3 rw' => ⟨z, H, I3, rw', q⟩) hs
def ixDic (d k : D) : Option D := (dicOf d).bind fun te => if isKey te.1 k then esGet te.2 k else none
def ixD : D → D → Option D
  | .dict es, k => ixDic (.dict es) k
  | .list ds, .int i => atI ds i
  | .tuple ds, .int i => atI ds i
  | .str z, .int i => if z.length ≤ sizeLine then (atI z.cps.toList i).map fun c => .str ⟨#[c]⟩ else none
  | _, _ => none
theorem RpA.atI {K : PySem.W.Frag} {Z : Hp} {vs : List V} {ds : List D} {i : Int} {d : D} (h : RpA K Z vs ds) (e : L2.atI ds i = some d) : ∃ v, L2.atI vs i = some v ∧ Rp K Z v d := by
  unfold L2.atI at e ⊢
  obtain ⟨j, e1, e2⟩ := Option.bind_eq_some_iff.mp e
  obtain ⟨v, e3, r⟩ := h.get e2
  refine ⟨v, ?_, r⟩
  rw [h.length, e1]
  exact e3
theorem ix_all (hu : X.A.units + 64 < cLine) : IxD X W ixD := by
  refine ⟨_, (ix_dic (by omega)).or ix_seq, fun x y a b d S σ c Q e hh ra rb q => ?_⟩
  unfold ixD at e
  split at e
  · obtain ⟨⟨t, es⟩, e1, e2⟩ := Option.bind_eq_some_iff.mp e
    dsimp only at e2
    split at e2
    · rename_i hk
      obtain ⟨p, u, rfl, hr, da⟩ := ra.dicI hh.zh e1
      obtain ⟨o, g, ro⟩ := da.get hh.zh hr hk (isKey_lo hk rb)
      rw [e2] at ro
      obtain ⟨v, rfl, rv⟩ := ro.some
      exact .inl ⟨p, v, rfl, g, q c v (Stp.refl _) hh rv⟩
    · cases e2
  all_goals first | refine .inr ?_ | skip
  all_goals first | skip | split at e
  · obtain ⟨p, xs, rfl, s1, r1⟩ := ra.lstI hh.zh
    cases rb.intI
    obtain ⟨v, e2, r⟩ := r1.atI e
    exact .inl ⟨p, xs, _, v, rfl, rfl, SqL.of s1, e2, q c v (Stp.refl _) hh r⟩
  · obtain ⟨p, xs, rfl, s1, r1⟩ := ra.tupI
    cases rb.intI
    obtain ⟨v, e2, r⟩ := r1.atI e
    exact .inr (.inl ⟨p, xs, _, v, rfl, rfl, sameT hh.zh s1, e2, q c v (Stp.refl _) hh r⟩)
  · split at e
    · rename_i hz
      cases ra.strI
      cases rb.intI
      obtain ⟨cc, e1, e2⟩ := Option.map_eq_some_iff.mp e
      subst e2
      exact .inr (.inr ⟨_, _, cc, rfl, rfl, hz, e1, q c _ (Stp.refl _) hh (.str _)⟩)
    · cases e
  · cases e
def eIx (fa fb : EM D) : EM D := eBin ixD fa fb
theorem de_ix {a b : Expr} {fa fb : EM D} (hu : X.A.units + 64 < cLine) (ha : DE X W a fa) (hb : DE X W b fb) (hs : PlainIx b := by intro _ _; rfl) : DE X W (.Subscript a b pos) (eIx fa fb) := de_ixG (ix_all hu) ha hb hs
/-- an item of a list that is held in a slot of its own -/
def eIxO (i : Nat) (fb : EM D) : EM D := eBinO ixD i fb
theorem de_ixO (hu : X.A.units + 64 < cLine) (i : Nat) {x : Str} {p : Pos} {b : Expr} {fb : EM D} (hb : DE X W b fb) (hN : X.N[i]? = some x := by rfl) (hv : Vis X.env.scope x := by first | exact Or.inl rfl | exact Or.inr (Or.inl rfl) | exact Or.inr (Or.inr rfl)) (hd : (x == ("__debug__" : Str)) = false := by decide)
    (hcd : (x == ("__classdict__" : Str)) = false := by decide) (hs : PlainIx b := by intro _ _; rfl) : DE X W (.Subscript (.Name x p) b pos) (eIxO i fb) := by
  obtain ⟨r, ho, hr⟩ := ix_all (X := X) (W := W) hu
  exact PE.wk (pe_ix ho (pe_var hN hv hd hcd) hb hs) (binO_rd hr)

/-! ### slices -/
def tO (G : Gx) (f : EM (Option Int)) : TO := fun σ H Q => ∃ S Z F, Holds G.K S σ ⟨Z, H, F⟩ ∧ Go G σ ⟨Z, H, F⟩ (f S) (fun o _ c' => Q o c'.H)
def DP (X : Cx) (W : WX) (e : Option Expr) (f : EM (Option Int)) : Prop := PO X e (tO (gx X W) f)
theorem PO.wk {e : Option Expr} {t t' : TO} (h : PO X e t) (i : ∀ σ H Q, t' σ H Q → t σ H Q) : PO X e t' := ⟨fun pins s σ H Q I q => h.run pins s σ H Q I (i _ _ _ q)⟩
def oNo : EM (Option Int) := eRet none
def asI : D → Option Int
  | .int i => some i
  | _ => none
def oSome (f : EM D) : EM (Option Int) := eBind f fun d => eBind (eOpt (asI d)) fun i => eRet (some i)
theorem dp_none : DP X W none oNo := PO.wk po_none fun σ H Q q => by
  obtain ⟨S, Z, F, h, q⟩ := q
  exact q _ (Stp.refl _) h
theorem dp_some {e : Expr} {f : EM D} (h : DE X W e f) : DP X W (some e) (oSome f) := PO.wk (po_some h) fun σ H Q q => by
  obtain ⟨S, Z, F, h, q⟩ := q
  refine ⟨S, Z, F, h, (Go.bind q).mono fun a S1 c1 s1 h1 q1 x rx => ?_⟩
  obtain ⟨i, e, k⟩ := Go.opt (Go.bind q1)
  cases a with
  | int j =>
    cases e
    cases rx
    exact ⟨i, rfl, k c1 (Stp.refl _) h1 c1 (Stp.refl _) h1⟩
  | _ => cases e
def cutD (ds : List D) (lo hi : Option Int) : List D := (ds.drop (HT.sIx ds.length 0 lo)).take (HT.sIx ds.length ds.length hi - HT.sIx ds.length 0 lo)
theorem RpA.cut {K : PySem.W.Frag} {Z : Hp} {vs : List V} {ds : List D} (h : RpA K Z vs ds) (lo hi : Option Int) : RpA K Z (cutV vs lo hi) (cutD ds lo hi) := by
  unfold cutV cutD
  rw [h.length]
  exact (h.drop _).take _
def slD (d : D) (lo hi : Option Int) : Option D := match d with
  | .list ds => some (.list (cutD ds lo hi))
  | .tuple ds => some (.tuple (cutD ds lo hi))
  | .str z => if z.length ≤ sizeLine then some (.str (cutS z lo hi)) else none
  | _ => none
def eSl (f : EM D) (lo hi : EM (Option Int)) : EM D := eBind f fun d => eBind lo fun l => eBind hi fun h => eOpt (slD d l h)
theorem cut_whole {ds : List D} {lo hi : Option Int} (h : HT.sIx ds.length 0 lo = 0 ∧ HT.sIx ds.length ds.length hi = ds.length) : cutD ds lo hi = ds := by
  unfold cutD
  rw [h.1, h.2]
  simp
theorem de_sl {e : Expr} {lo hi : Option Expr} {f : EM D} {l u : EM (Option Int)} {p2 : Pos} (he : DE X W e f) (hl : DP X W lo l) (hu : DP X W hi u) : DE X W (.Subscript e (.Slice lo hi none p2) pos) (eSl f l u) := by
  refine PE.wk (pe_slice ((sl_list.or sl_tupA).or sl_str) he hl hu) fun σ H Q q => ?_
  obtain ⟨S, Z, F, h, q⟩ := q
  refine ⟨S, Z, F, h, (Go.bind q).mono fun d S1 c1 s1 h1 q1 x rx => ?_⟩
  refine ⟨S1, c1.Z, c1.F, h1, (Go.bind q1).mono fun l2 S2 c2 s2 h2 q2 => ?_⟩
  refine ⟨S2, c2.Z, c2.F, h2, (Go.bind q2).mono fun u2 S3 c3 s3 h3 q3 => ?_⟩
  obtain ⟨dd, e, k⟩ := Go.opt q3
  have rx3 := (rx.mono s2.z).mono s3.z
  unfold slD at e
  split at e
  · cases e
    obtain ⟨p, xs, rfl, a1, r1⟩ := rx3.lstI
    refine .inl (.inl ⟨p, xs, rfl, SqL.of (h3.zh _ _ a1), fun pn hp => ?_⟩)
    obtain ⟨st, hh, r⟩ := h3.layL hp (r1.cut l2 u2)
    exact k _ st hh _ r
  · cases e
    obtain ⟨p, xs, rfl, a1, r1⟩ := rx3.tupI
    refine .inl (.inr ⟨p, xs, rfl, sameT h3.zh a1, fun hw => ?_, fun _ pn hp => ?_⟩)
    · rw [r1.length] at hw
      rw [cut_whole hw] at k
      exact k c3 (Stp.refl _) h3 _ rx3
    · obtain ⟨st, hh, r⟩ := h3.layT hp (r1.cut l2 u2)
      exact k _ st hh _ r
  · split at e
    · rename_i hz
      cases e
      cases rx3
      exact .inr ⟨_, rfl, hz, k c3 (Stp.refl _) h3 _ (.str _)⟩
    · cases e
  · cases e
/-- xs[::-1] of a list -/
def revD : D → Option D
  | .list ds => some (.list ds.reverse)
  | _ => none
theorem de_revL {e : Expr} {f : EM D} {k : Nat} {p1 p2 p3 : Pos} (he : DL X W e f) : DE X W (.Subscript e (.Slice none none (some (.UnaryOp .USub (.Constant (.int 1) k p1) p2)) p3) pos) (eUn revD f) := by
  refine PE.wk (pe_revL he) fun σ H Q q => ?_
  obtain ⟨S, Z, F, h, q⟩ := q
  refine ⟨S, Z, F, h, (Go.bind q).mono fun d S1 c1 s1 h1 q1 x rx => ?_⟩
  obtain ⟨dd, e, k⟩ := Go.opt q1
  unfold revD at e
  split at e
  · cases e
    obtain ⟨p, xs, rfl, a1, r1⟩ := rx.lstI h1.zh
    refine ⟨p, xs, rfl, SqL.of a1, fun pn hp => ?_⟩
    obtain ⟨st, hh, r⟩ := h1.layL hp r1.rev
    exact k _ st hh _ r
  · cases e

/-! ### calls of what is built in -/
inductive LoA (K : PySem.W.Frag) (c : Cfg) : List V → List D → Prop
  | nil : LoA K c [] []
  | cons {v : V} {vs : List V} {d : D} {ds : List D} : Lo K c v d → LoA K c vs ds → LoA K c (v :: vs) (d :: ds)
theorem LoA.of {K : PySem.W.Frag} {c : Cfg} : ∀ {ds : List D} {vs : List V}, RpA K c.Z vs ds → LoA K c vs ds
  | [], _, .nil => .nil
  | _ :: _, _, .cons h t => .cons (.z h) (LoA.of t)
theorem LoA.one {K : PySem.W.Frag} {c : Cfg} {vs : List V} {d : D} (h : LoA K c vs [d]) : ∃ v, vs = [v] ∧ Lo K c v d := by
  cases h with
  | cons h1 h2 =>
    cases h2
    exact ⟨_, rfl, h1⟩
theorem LoA.i1 {K : PySem.W.Frag} {c : Cfg} {vs : List V} {i : Int} (h : LoA K c vs [.int i]) : vs = [.int i] := by
  obtain ⟨v, rfl, r⟩ := h.one
  rw [r.intI]
theorem LoA.i2 {K : PySem.W.Frag} {c : Cfg} {vs : List V} {i j : Int} (h : LoA K c vs [.int i, .int j]) : vs = [.int i, .int j] := by
  cases h with
  | cons h1 h2 => rw [h1.intI, h2.i1]
def CallD (X : Cx) (W : WX) (f : Value) (g : List D → Option D) : Prop := ∃ r : List V → Hp → VK → Prop, CallR X f r ∧
  ∀ (vs : List V) (ds : List D) (d : D) (S : List Slot) (σ : Sg) (c : Cfg) (Q : VK), g ds = some d → Holds X.K S σ c → LoA X.K c vs ds → (∀ c' v, Stp c c' → Holds X.K S σ c' → Rp X.K c'.Z v d → Q v c'.H) → r vs c.H Q
def CallF (X : Cx) (W : WX) (f : Value) (g : List D → Option (List D)) : Prop := ∃ r : List V → Hp → VK → Prop, CallR X f r ∧
  ∀ (vs : List V) (ds es : List D) (S : List Slot) (σ : Sg) (c : Cfg) (Q : VK), g ds = some es → Holds X.K S σ c → LoA X.K c vs ds → (∀ c' p us, Stp c c' → Holds X.K S σ c' → c'.H p = none → RpA X.K c'.Z us es → Q (.ref p) (upd c'.H p (.lst us))) → r vs c.H Q
def eB (g : List D → Option D) (fa : EM (List D)) : EM D := eBind fa fun ds => eOpt (g ds)
def eBF (g : List D → Option (List D)) (fa : EM (List D)) : EM (List D) := eBind fa fun ds => eOpt (g ds)
variable {x : Str} {p : Pos} {e : Expr} {es : List Expr} {fa : EM (List D)}
theorem cb_rd {r : List V → Hp → VK → Prop} {g : List D → Option D} (hr : ∀ (vs : List V) (ds : List D) (d : D) (S : List Slot) (σ : Sg) (c : Cfg) (Q : VK), g ds = some d → Holds X.K S σ c → LoA X.K c vs ds → (∀ c' v, Stp c c' → Holds X.K S σ c' → Rp X.K c'.Z v d → Q v c'.H) → r vs c.H Q)
    (σ : Sg) (H : Hp) (Q : VK) (q : tD (gx X W) (eB g fa) σ H Q) : tCB r (tDs (gx X W) fa) σ H Q := by
  obtain ⟨S, Z, F, h, q⟩ := q
  refine ⟨S, Z, F, h, (Go.bind q).mono fun ds S1 c1 s1 h1 q1 vs rs => ?_⟩
  obtain ⟨d, e, k⟩ := Go.opt q1
  exact hr vs ds d S1 σ c1 Q e h1 (LoA.of rs) fun c' v st hh rv => k c' st hh v rv
theorem cf_rd {r : List V → Hp → VK → Prop} {g : List D → Option (List D)} (hr : ∀ (vs : List V) (ds es : List D) (S : List Slot) (σ : Sg) (c : Cfg) (Q : VK), g ds = some es → Holds X.K S σ c → LoA X.K c vs ds → (∀ c' p us, Stp c c' → Holds X.K S σ c' → c'.H p = none → RpA X.K c'.Z us es → Q (.ref p) (upd c'.H p (.lst us))) → r vs c.H Q)
    (σ : Sg) (H : Hp) (Q : VK) (q : tF (gx X W) (eBF g fa) σ H Q) : tCB r (tDs (gx X W) fa) σ H Q := by
  obtain ⟨S, Z, F, h, q⟩ := q
  refine ⟨S, Z, F, h, (Go.bind q).mono fun ds S1 c1 s1 h1 q1 vs rs => ?_⟩
  obtain ⟨d, e, k⟩ := Go.opt q1
  exact hr vs ds d S1 σ c1 Q e h1 (LoA.of rs) fun c' pn us st hh hp ru => k c' st hh pn us hp ru
theorem de_B {id : String} {g : List D → Option D} (hc : CallD X W (.builtin id) g) (hg : Gl X x) (hm : X.mg x = none) (hv : bootBuiltins x = some (.builtin id)) (ha : DA X W (e :: es) fa) (hn : x ≠ "__name__" := by decide) (hd : (x == ("__debug__" : Str)) = false := by decide)
    (hs : starEach (e :: es) X.env = (false, eval e X.env) :: starEach es X.env := by rfl) (hpl : (backTo pos (starEach es X.env)).any (·.1) = false := by rfl) : DE X W (.Call (.Name x p) (e :: es) [] pos) (eB g fa) := by
  obtain ⟨r, hc, hr⟩ := hc
  exact PE.wk (pe_callB hc hg hm hv ha (hn := hn) (hdb := hd) (he := hs) (hpl := hpl)) (cb_rd hr)
theorem de_Ty {T : String} {g : List D → Option D} (hc : CallD X W (.type T) g) (hg : Gl X x) (hm : X.mg x = none) (hv : bootBuiltins x = some (.type T)) (ha : DA X W (e :: es) fa) (hn : x ≠ "__name__" := by decide) (hd : (x == ("__debug__" : Str)) = false := by decide)
    (hs : starEach (e :: es) X.env = (false, eval e X.env) :: starEach es X.env := by rfl) (hpl : (backTo pos (starEach es X.env)).any (·.1) = false := by rfl) : DE X W (.Call (.Name x p) (e :: es) [] pos) (eB g fa) := by
  obtain ⟨r, hc, hr⟩ := hc
  exact PE.wk (pe_callTy hc hg hm hv ha (hn := hn) (hdb := hd) (he := hs) (hpl := hpl)) (cb_rd hr)
theorem df_B {id : String} {g : List D → Option (List D)} (hc : CallF X W (.builtin id) g) (hg : Gl X x) (hm : X.mg x = none) (hv : bootBuiltins x = some (.builtin id)) (ha : DA X W (e :: es) fa) (hn : x ≠ "__name__" := by decide) (hd : (x == ("__debug__" : Str)) = false := by decide)
    (hs : starEach (e :: es) X.env = (false, eval e X.env) :: starEach es X.env := by rfl) (hpl : (backTo pos (starEach es X.env)).any (·.1) = false := by rfl) : DF X W (.Call (.Name x p) (e :: es) [] pos) (eBF g fa) := by
  obtain ⟨r, hc, hr⟩ := hc
  exact PE.wk (pe_callB hc hg hm hv ha (hn := hn) (hdb := hd) (he := hs) (hpl := hpl)) (cf_rd hr)
theorem df_Ty {T : String} {g : List D → Option (List D)} (hc : CallF X W (.type T) g) (hg : Gl X x) (hm : X.mg x = none) (hv : bootBuiltins x = some (.type T)) (ha : DA X W (e :: es) fa) (hn : x ≠ "__name__" := by decide) (hd : (x == ("__debug__" : Str)) = false := by decide)
    (hs : starEach (e :: es) X.env = (false, eval e X.env) :: starEach es X.env := by rfl) (hpl : (backTo pos (starEach es X.env)).any (·.1) = false := by rfl) : DF X W (.Call (.Name x p) (e :: es) [] pos) (eBF g fa) := by
  obtain ⟨r, hc, hr⟩ := hc
  exact PE.wk (pe_callTy hc hg hm hv ha (hn := hn) (hdb := hd) (he := hs) (hpl := hpl)) (cf_rd hr)
/-- the one argument a list in a slot of its own -/
def eBO (g : List D → Option D) (i : Nat) : EM D := fun S => match slotAt S i with
  | some d => eOpt (g [d]) S
  | none => .bad
def eBFO (g : List D → Option (List D)) (i : Nat) : EM (List D) := fun S => match slotAt S i with
  | some d => eOpt (g [d]) S
  | none => .bad
theorem cbO_rd {r : List V → Hp → VK → Prop} {g : List D → Option D} {i : Nat} (hr : ∀ (vs : List V) (ds : List D) (d : D) (S : List Slot) (σ : Sg) (c : Cfg) (Q : VK), g ds = some d → Holds X.K S σ c → LoA X.K c vs ds → (∀ c' v, Stp c c' → Holds X.K S σ c' → Rp X.K c'.Z v d → Q v c'.H) → r vs c.H Q)
    (σ : Sg) (H : Hp) (Q : VK) (q : tD (gx X W) (eBO g i) σ H Q) : tCB r (tCons (tVar i) tNil) σ H Q := by
  obtain ⟨S, Z, F, h, q⟩ := q
  unfold eBO at q
  split at q
  · rename_i ds e
    obtain ⟨p, e2, r1⟩ := h.loAt e
    obtain ⟨d, e4, k⟩ := Go.opt q
    exact ⟨.ref p, e2, hr [.ref p] [ds] d S σ ⟨Z, H, F⟩ Q e4 h (.cons r1 .nil) fun c' v st hh rv => k c' st hh v rv⟩
  · exact q.elim
theorem cfO_rd {r : List V → Hp → VK → Prop} {g : List D → Option (List D)} {i : Nat} (hr : ∀ (vs : List V) (ds es : List D) (S : List Slot) (σ : Sg) (c : Cfg) (Q : VK), g ds = some es → Holds X.K S σ c → LoA X.K c vs ds → (∀ c' p us, Stp c c' → Holds X.K S σ c' → c'.H p = none → RpA X.K c'.Z us es → Q (.ref p) (upd c'.H p (.lst us))) → r vs c.H Q)
    (σ : Sg) (H : Hp) (Q : VK) (q : tF (gx X W) (eBFO g i) σ H Q) : tCB r (tCons (tVar i) tNil) σ H Q := by
  obtain ⟨S, Z, F, h, q⟩ := q
  unfold eBFO at q
  split at q
  · rename_i ds e
    obtain ⟨p, e2, r1⟩ := h.loAt e
    obtain ⟨d, e4, k⟩ := Go.opt q
    exact ⟨.ref p, e2, hr [.ref p] [ds] d S σ ⟨Z, H, F⟩ Q e4 h (.cons r1 .nil) fun c' pn us st hh hp ru => k c' st hh pn us hp ru⟩
  · exact q.elim
variable {y : Str} {p2 : Pos}
theorem de_BO {id : String} {g : List D → Option D} (i : Nat) (hc : CallD X W (.builtin id) g) (hg : Gl X x) (hm : X.mg x = none) (hv : bootBuiltins x = some (.builtin id)) (hN : X.N[i]? = some y := by rfl) (hvi : Vis X.env.scope y := by first | exact Or.inl rfl | exact Or.inr (Or.inl rfl) | exact Or.inr (Or.inr rfl)) (hdy : (y == ("__debug__" : Str)) = false := by decide)
    (hcd : (y == ("__classdict__" : Str)) = false := by decide) (hn : x ≠ "__name__" := by decide) (hd : (x == ("__debug__" : Str)) = false := by decide)
    (hs : starEach [.Name y p2] X.env = (false, eval (.Name y p2) X.env) :: starEach [] X.env := by rfl) (hpl : (backTo pos (starEach [] X.env)).any (·.1) = false := by rfl) : DE X W (.Call (.Name x p) [.Name y p2] [] pos) (eBO g i) := by
  obtain ⟨r, hc, hr⟩ := hc
  exact PE.wk (pe_callB hc hg hm hv (pa_cons (pe_var hN hvi hdy hcd) pa_nil hs) (hn := hn) (hdb := hd) (he := hs) (hpl := hpl)) (cbO_rd hr)
theorem de_TyO {T : String} {g : List D → Option D} (i : Nat) (hc : CallD X W (.type T) g) (hg : Gl X x) (hm : X.mg x = none) (hv : bootBuiltins x = some (.type T)) (hN : X.N[i]? = some y := by rfl) (hvi : Vis X.env.scope y := by first | exact Or.inl rfl | exact Or.inr (Or.inl rfl) | exact Or.inr (Or.inr rfl)) (hdy : (y == ("__debug__" : Str)) = false := by decide)
    (hcd : (y == ("__classdict__" : Str)) = false := by decide) (hn : x ≠ "__name__" := by decide) (hd : (x == ("__debug__" : Str)) = false := by decide)
    (hs : starEach [.Name y p2] X.env = (false, eval (.Name y p2) X.env) :: starEach [] X.env := by rfl) (hpl : (backTo pos (starEach [] X.env)).any (·.1) = false := by rfl) : DE X W (.Call (.Name x p) [.Name y p2] [] pos) (eBO g i) := by
  obtain ⟨r, hc, hr⟩ := hc
  exact PE.wk (pe_callTy hc hg hm hv (pa_cons (pe_var hN hvi hdy hcd) pa_nil hs) (hn := hn) (hdb := hd) (he := hs) (hpl := hpl)) (cbO_rd hr)
theorem RpA.one {K : PySem.W.Frag} {Z : Hp} {vs : List V} {d : D} (h : RpA K Z vs [d]) : ∃ v, vs = [v] ∧ Rp K Z v d := by
  cases h with
  | cons h1 h2 =>
    cases h2
    exact ⟨_, rfl, h1⟩
theorem RpA.two {K : PySem.W.Frag} {Z : Hp} {vs : List V} {d e : D} (h : RpA K Z vs [d, e]) : ∃ v u, vs = [v, u] ∧ Rp K Z v d ∧ Rp K Z u e := by
  cases h with
  | cons h1 h2 =>
    obtain ⟨u, rfl, h3⟩ := h2.one
    exact ⟨_, _, rfl, h1, h3⟩
def lenD : List D → Option D
  | [.list ds] => some (.int ds.length)
  | [.tuple ds] => some (.int ds.length)
  | [.str z] => if z.length ≤ sizeLine then some (.int z.length) else none
  | [.dict es] => (dicOf (.dict es)).map fun te => .int te.2.length
  | _ => none
theorem CallR.or' {f : Value} {r r' : List V → Hp → VK → Prop} (h : CallR X f r) (h' : CallR X f r') : CallR X f (fun vs H Q => r vs H Q ∨ r' vs H Q) := by
  intro pins s σ H xs us Q I rv q
  rcases q with q | q
  · exact h pins s σ H xs us Q I rv q
  · exact h' pins s σ H xs us Q I rv q
def rLenDic : List V → Hp → VK → Prop := fun xs H Q => ∃ (a : Addr) (u : HO) (n : Nat), xs = [.ref a] ∧ Rd H a u ∧ ((∃ kvs : List (Key × V), u = .dK kvs ∧ kvs.length = n) ∨ ∃ kvs : List (List Key × V), u = .dT kvs ∧ kvs.length = n) ∧ Q (.int n) H
theorem call_lenDic : CallR X (.builtin "len") rLenDic := by
  intro pins s σ H xs us Q I r h
  obtain ⟨a, u, n, rfl, hr, hk, q⟩ := h
  obtain rfl := Vals.ref1 r
  rcases hk with ⟨kvs, rfl, rfl⟩ | ⟨kvs, rfl, rfl⟩
  · obtain ⟨z, hd, vs, rel, dd⟩ := dk_rd I.hok hr
    refine call_len_dict hd dd (by rw [← rel.length]; rw [sizeLine_eq] at z; omega) ?_
    rw [← rel.length]
    exact ⟨.int kvs.length, H, I.tok _, ⟨_, rfl⟩, q⟩
  · obtain ⟨z, hd, xs, rel, dd⟩ := dt_rd I.hok hr
    have hl : kvs.length = xs.length := Paired.length rel
    refine call_len_dictH hd dd (by rw [← hl]; rw [sizeLine_eq] at z; omega) ?_
    rw [← hl]
    exact ⟨.int kvs.length, H, I.tok _, ⟨_, rfl⟩, q⟩
theorem cd_len : CallD X W (.builtin "len") lenD := by
  refine ⟨_, CallR.or' call_lenDic call_len, fun vs ds d S σ c Q e hh rs q => ?_⟩
  by_cases hD : ∃ es, ds = [.dict es]
  · obtain ⟨es, rfl⟩ := hD
    obtain ⟨te, e1, e2⟩ := Option.map_eq_some_iff.mp (show (dicOf (.dict es)).map (fun te => PyData.int te.2.length) = some d from e)
    cases e2
    obtain ⟨v, rfl, r⟩ := rs.one
    obtain ⟨p, u, rfl, hr, da⟩ := r.dicI (t := te.1) (es := te.2) hh.zh e1
    refine .inl ⟨p, u, te.2.length, rfl, hr, ?_, q c _ (Stp.refl _) hh (.int _)⟩
    rcases da.len with ⟨kvs, h1, h2⟩ | ⟨kvs, h1, h2⟩
    · cases h1; exact .inl ⟨kvs, rfl, h2⟩
    · cases h1; exact .inr ⟨kvs, rfl, h2⟩
  refine .inr ?_
  unfold lenD at e
  split at e
  · cases e
    obtain ⟨v, rfl, r⟩ := rs.one
    obtain ⟨a, xs, rfl, a1, r1⟩ := r.lstI hh.zh
    exact ⟨_, _, rfl, .inl ⟨xs, SqL.of a1, r1.length.symm⟩, q c _ (Stp.refl _) hh (.int _)⟩
  · cases e
    obtain ⟨v, rfl, r⟩ := rs.one
    obtain ⟨a, xs, rfl, a1, r1⟩ := r.tupI
    exact ⟨_, _, rfl, .inr ⟨xs, sameT hh.zh a1, r1.length.symm⟩, q c _ (Stp.refl _) hh (.int _)⟩
  · split at e
    · rename_i hz
      cases e
      obtain ⟨v, rfl, r⟩ := rs.one
      cases r.strI
      exact ⟨_, _, rfl, ⟨hz, rfl⟩, q c _ (Stp.refl _) hh (.int _)⟩
    · cases e
  · exact absurd ⟨_, rfl⟩ hD
  · cases e
/-- lists of numbers, of truth values -/
def allI : List D → Option (List Int)
  | [] => some []
  | .int i :: ds => (allI ds).map (i :: ·)
  | _ :: _ => none
def allB : List D → Option (List Bool)
  | [] => some []
  | .bool i :: ds => (allB ds).map (i :: ·)
  | _ :: _ => none
theorem allI_ok : ∀ {ds : List D} {ns : List Int}, allI ds = some ns → ds = ns.map PyData.int
  | [], _, h => by cases h; rfl
  | .int i :: ds, ns, h => by
    obtain ⟨ms, e1, e2⟩ := Option.map_eq_some_iff.mp (show (allI ds).map (i :: ·) = some ns from h)
    subst e2
    rw [allI_ok e1]
    rfl
theorem allB_ok : ∀ {ds : List D} {ns : List Bool}, allB ds = some ns → ds = ns.map PyData.bool
  | [], _, h => by cases h; rfl
  | .bool i :: ds, ns, h => by
    obtain ⟨ms, e1, e2⟩ := Option.map_eq_some_iff.mp (show (allB ds).map (i :: ·) = some ns from h)
    subst e2
    rw [allB_ok e1]
    rfl
theorem allI_map (ns : List Int) : allI (ns.map PyData.int) = some ns := by
  induction ns with
  | nil => rfl
  | cons n ns ih =>
    show (allI (ns.map PyData.int)).map (n :: ·) = _
    rw [ih]
    rfl
theorem allB_map (ns : List Bool) : allB (ns.map PyData.bool) = some ns := by
  induction ns with
  | nil => rfl
  | cons n ns ih =>
    show (allB (ns.map PyData.bool)).map (n :: ·) = _
    rw [ih]
    rfl
theorem RpA.intsV {K : PySem.W.Frag} {Z : Hp} : ∀ {ns : List Int} {vs : List V}, RpA K Z vs (ns.map PyData.int) → vs = ns.map V.int
  | [], _, h => by cases h; rfl
  | n :: ns, _, h => by
    cases h with
    | cons h1 h2 =>
      cases h1
      rw [RpA.intsV h2]
      rfl
theorem RpA.blsV {K : PySem.W.Frag} {Z : Hp} : ∀ {ns : List Bool} {vs : List V}, RpA K Z vs (ns.map PyData.bool) → vs = ns.map V.bl
  | [], _, h => by cases h; rfl
  | n :: ns, _, h => by
    cases h with
    | cons h1 h2 =>
      cases h1
      rw [RpA.blsV h2]
      rfl
theorem RpA.ofI {K : PySem.W.Frag} {Z : Hp} : ∀ (ns : List Int), RpA K Z (ns.map V.int) (ns.map PyData.int)
  | [] => .nil
  | n :: ns => .cons (.int n) (RpA.ofI ns)
def sumD : List D → Option D
  | [.list ds] => (allI ds).map fun ns => .int ns.sum
  | _ => none
theorem cd_sum (hc : X.calm = true) : CallD X W (.builtin "sum") sumD := by
  refine ⟨_, cr_sum hc, fun vs ds d S σ c Q e hh rs q => ?_⟩
  unfold sumD at e
  split at e
  · obtain ⟨ns, e1, e2⟩ := Option.map_eq_some_iff.mp e
    subst e2
    obtain ⟨v, rfl, r⟩ := rs.one
    obtain ⟨a, xs, rfl, a1, r1⟩ := r.lstI hh.zh
    rw [allI_ok e1] at r1
    cases r1.intsV
    exact ⟨a, ns, rfl, SqL.of a1, q c _ (Stp.refl _) hh (.int _)⟩
  · cases e
def allD : List D → Option D
  | [.list ds] => (allB ds).map fun ns => .bool (ns.all id)
  | _ => none
def anyD : List D → Option D
  | [.list ds] => (allB ds).map fun ns => .bool (ns.any id)
  | _ => none
theorem cd_all (hc : X.calm = true) : CallD X W (.builtin "all") allD := by
  refine ⟨_, cr_all hc, fun vs ds d S σ c Q e hh rs q => ?_⟩
  unfold allD at e
  split at e
  · obtain ⟨ns, e1, e2⟩ := Option.map_eq_some_iff.mp e
    subst e2
    obtain ⟨v, rfl, r⟩ := rs.one
    obtain ⟨a, xs, rfl, a1, r1⟩ := r.lstI hh.zh
    rw [allB_ok e1] at r1
    cases r1.blsV
    exact ⟨a, ns, rfl, SqL.of a1, q c _ (Stp.refl _) hh (.bl _)⟩
  · cases e
theorem cd_any (hc : X.calm = true) : CallD X W (.builtin "any") anyD := by
  refine ⟨_, cr_any hc, fun vs ds d S σ c Q e hh rs q => ?_⟩
  unfold anyD at e
  split at e
  · obtain ⟨ns, e1, e2⟩ := Option.map_eq_some_iff.mp e
    subst e2
    obtain ⟨v, rfl, r⟩ := rs.one
    obtain ⟨a, xs, rfl, a1, r1⟩ := r.lstI hh.zh
    rw [allB_ok e1] at r1
    cases r1.blsV
    exact ⟨a, ns, rfl, SqL.of a1, q c _ (Stp.refl _) hh (.bl _)⟩
  · cases e
def absD : List D → Option D
  | [.int i] => some (.int (if i < 0 then -i else i))
  | _ => none
theorem cd_abs : CallD X W (.builtin "abs") absD := by
  refine ⟨_, call_abs, fun vs ds d S σ c Q e hh rs q => ?_⟩
  unfold absD at e
  split at e
  · cases e
    cases rs.i1
    exact ⟨_, rfl, q c _ (Stp.refl _) hh (.int _)⟩
  · cases e
def intD : List D → Option D
  | [.int i] => some (.int i)
  | [.bool b] => some (.int (if b then 1 else 0))
  | _ => none
theorem cd_int : CallD X W (.type "int") intD := by
  refine ⟨_, call_int1, fun vs ds d S σ c Q e hh rs q => ?_⟩
  unfold intD at e
  split at e
  · cases e
    cases rs.i1
    exact .inl ⟨_, rfl, q c _ (Stp.refl _) hh (.int _)⟩
  · cases e
    obtain ⟨v, rfl, r⟩ := rs.one
    cases r.boolI
    exact .inr ⟨_, rfl, q c _ (Stp.refl _) hh (.int _)⟩
  · cases e
def tupleD : List D → Option D
  | [.list ds] => some (.tuple ds)
  | [.tuple ds] => some (.tuple ds)
  | _ => none
theorem cd_tuple : CallD X W (.type "tuple") tupleD := by
  refine ⟨_, call_tuple_of, fun vs ds d S σ c Q e hh rs q => ?_⟩
  unfold tupleD at e
  split at e
  · cases e
    obtain ⟨v, rfl, r⟩ := rs.one
    obtain ⟨a, xs, rfl, a1, r1⟩ := r.lstI hh.zh
    refine ⟨a, xs, rfl, .inl ⟨SqL.of a1, fun pn hp => ?_⟩⟩
    obtain ⟨st, h2, r2⟩ := hh.layT hp r1
    exact q _ _ st h2 r2
  · cases e
    obtain ⟨v, rfl, r⟩ := rs.one
    obtain ⟨a, xs, rfl, a1, r1⟩ := r.tupZ.tupS
    exact ⟨a, xs, rfl, .inr ⟨sameT hh.zh (SqT.of a1), q c _ (Stp.refl _) hh (.tup a1 r1)⟩⟩
  · cases e
def listD : List D → Option (List D)
  | [.list ds] => some ds
  | [.tuple ds] => some ds
  | _ => none
theorem cf_list : CallF X W (.type "list") listD := by
  refine ⟨_, call_list_of, fun vs ds es S σ c Q e hh rs q => ?_⟩
  unfold listD at e
  split at e
  · cases e
    obtain ⟨v, rfl, r⟩ := rs.one
    obtain ⟨a, xs, rfl, a1, r1⟩ := r.lstI hh.zh
    exact ⟨a, xs, rfl, .inl (SqL.of a1), fun pn hp => q c pn xs (Stp.refl _) hh hp r1⟩
  · cases e
    obtain ⟨v, rfl, r⟩ := rs.one
    obtain ⟨a, xs, rfl, a1, r1⟩ := r.tupI
    exact ⟨a, xs, rfl, .inr (sameT hh.zh a1), fun pn hp => q c pn xs (Stp.refl _) hh hp r1⟩
  · cases e
def maxI : List Int → Option Int
  | [] => none
  | n :: ns => some (ns.foldl (fun a b => if a < b then b else a) n)
def minI : List Int → Option Int
  | [] => none
  | n :: ns => some (ns.foldl (fun a b => if b < a then b else a) n)
theorem fmax : ∀ (ns : List Int) (n : Int), (ns.foldl (fun a b => if a < b then b else a) n = n ∨ ns.foldl (fun a b => if a < b then b else a) n ∈ ns) ∧ n ≤ ns.foldl (fun a b => if a < b then b else a) n ∧ ∀ y ∈ ns, y ≤ ns.foldl (fun a b => if a < b then b else a) n
  | [], n => ⟨.inl rfl, Int.le_refl _, fun y h => by simp at h⟩
  | m :: ns, n => by
    rw [List.foldl_cons]
    obtain ⟨h1, h2, h3⟩ := fmax ns (if n < m then m else n)
    by_cases h : n < m
    · rw [if_pos h] at h1 h2 h3 ⊢
      refine ⟨?_, by omega, fun y hy => ?_⟩
      · rcases h1 with h1 | h1
        · rw [h1]; simp
        · simp [h1]
      · rcases List.mem_cons.mp hy with e | hy
        · rw [e]; exact h2
        · exact h3 y hy
    · rw [if_neg h] at h1 h2 h3 ⊢
      refine ⟨?_, h2, fun y hy => ?_⟩
      · rcases h1 with h1 | h1
        · exact .inl h1
        · simp [h1]
      · rcases List.mem_cons.mp hy with e | hy
        · rw [e]; omega
        · exact h3 y hy
theorem fmin : ∀ (ns : List Int) (n : Int), (ns.foldl (fun a b => if b < a then b else a) n = n ∨ ns.foldl (fun a b => if b < a then b else a) n ∈ ns) ∧ ns.foldl (fun a b => if b < a then b else a) n ≤ n ∧ ∀ y ∈ ns, ns.foldl (fun a b => if b < a then b else a) n ≤ y
  | [], n => ⟨.inl rfl, Int.le_refl _, fun y h => by simp at h⟩
  | m :: ns, n => by
    rw [List.foldl_cons]
    obtain ⟨h1, h2, h3⟩ := fmin ns (if m < n then m else n)
    by_cases h : m < n
    · rw [if_pos h] at h1 h2 h3 ⊢
      refine ⟨?_, by omega, fun y hy => ?_⟩
      · rcases h1 with h1 | h1
        · rw [h1]; simp
        · simp [h1]
      · rcases List.mem_cons.mp hy with e | hy
        · rw [e]; exact h2
        · exact h3 y hy
    · rw [if_neg h] at h1 h2 h3 ⊢
      refine ⟨?_, h2, fun y hy => ?_⟩
      · rcases h1 with h1 | h1
        · exact .inl h1
        · simp [h1]
      · rcases List.mem_cons.mp hy with e | hy
        · rw [e]; omega
        · exact h3 y hy
theorem maxI_spec {ns : List Int} {m : Int} (h : maxI ns = some m) : m ∈ ns ∧ ∀ y ∈ ns, y ≤ m := by
  cases ns with
  | nil => cases h
  | cons n ns =>
    cases h
    obtain ⟨h1, h2, h3⟩ := fmax ns n
    refine ⟨?_, fun y hy => ?_⟩
    · rcases h1 with h1 | h1
      · rw [h1]; simp
      · simp [h1]
    · rcases List.mem_cons.mp hy with e | hy
      · rw [e]; exact h2
      · exact h3 y hy
theorem minI_spec {ns : List Int} {m : Int} (h : minI ns = some m) : m ∈ ns ∧ ∀ y ∈ ns, m ≤ y := by
  cases ns with
  | nil => cases h
  | cons n ns =>
    cases h
    obtain ⟨h1, h2, h3⟩ := fmin ns n
    refine ⟨?_, fun y hy => ?_⟩
    · rcases h1 with h1 | h1
      · rw [h1]; simp
      · simp [h1]
    · rcases List.mem_cons.mp hy with e | hy
      · rw [e]; exact h2
      · exact h3 y hy
def maxD : List D → Option D
  | [.list ds] => ((allI ds).bind maxI).map PyData.int
  | [.int i, .int j] => some (.int (if j > i then j else i))
  | _ => none
def minD : List D → Option D
  | [.list ds] => ((allI ds).bind minI).map PyData.int
  | [.int i, .int j] => some (.int (if j < i then j else i))
  | _ => none
theorem cd_max (hc : X.calm = true) : CallD X W (.builtin "max") maxD := by
  refine ⟨_, (cr_max hc).or (call_max2 hc), fun vs ds d S σ c Q e hh rs q => ?_⟩
  unfold maxD at e
  split at e
  · obtain ⟨m, e1, e2⟩ := Option.map_eq_some_iff.mp e
    obtain ⟨ns, e3, e4⟩ := Option.bind_eq_some_iff.mp e1
    subst e2
    obtain ⟨v, rfl, r⟩ := rs.one
    obtain ⟨a, xs, rfl, a1, r1⟩ := r.lstI hh.zh
    rw [allI_ok e3] at r1
    cases r1.intsV
    obtain ⟨m1, m2⟩ := maxI_spec e4
    refine .inl ⟨a, ns, rfl, SqL.of a1, List.length_pos_of_mem m1, fun k k1 k2 => ?_⟩
    have : k = m := by
      have := k2 m m1
      have := m2 k k1
      omega
    subst this
    exact q c _ (Stp.refl _) hh (.int _)
  · cases e
    cases rs.i2
    exact .inr ⟨_, _, rfl, q c _ (Stp.refl _) hh (.int _)⟩
  · cases e
theorem cd_min (hc : X.calm = true) : CallD X W (.builtin "min") minD := by
  refine ⟨_, (cr_min hc).or (call_min2 hc), fun vs ds d S σ c Q e hh rs q => ?_⟩
  unfold minD at e
  split at e
  · obtain ⟨m, e1, e2⟩ := Option.map_eq_some_iff.mp e
    obtain ⟨ns, e3, e4⟩ := Option.bind_eq_some_iff.mp e1
    subst e2
    obtain ⟨v, rfl, r⟩ := rs.one
    obtain ⟨a, xs, rfl, a1, r1⟩ := r.lstI hh.zh
    rw [allI_ok e3] at r1
    cases r1.intsV
    obtain ⟨m1, m2⟩ := minI_spec e4
    refine .inl ⟨a, ns, rfl, SqL.of a1, List.length_pos_of_mem m1, fun k k1 k2 => ?_⟩
    have : k = m := by
      have := k2 m m1
      have := m2 k k1
      omega
    subst this
    exact q c _ (Stp.refl _) hh (.int _)
  · cases e
    cases rs.i2
    exact .inr ⟨_, _, rfl, q c _ (Stp.refl _) hh (.int _)⟩
  · cases e
end
end FW

/-! FwH: lists that are changed, isinstance, borrowed lists. -/
namespace FW
open PySem PySem.Spec L2
open PyProof.Rows hiding St
section
variable {X : Cx} {W : WX} {pos : Pos}
/-- a list in a slot of its own is changed -/
theorem Holds.mutO {K : PySem.W.Frag} {S : List Slot} {σ : Sg} {c : Cfg} {i : Nat} {ds : List D} (h : Holds K S σ c) (e : S[i]? = some (.own ds)) :
    ∃ p vs, σ[i]? = some (some (V.ref p)) ∧ c.H p = some (.lst vs) ∧ RpA K c.Z vs ds ∧ ∀ ds' vs', RpA K c.Z vs' ds' →
      Stp c ⟨c.Z, upd c.H p (.lst vs'), c.F⟩ ∧ Holds K (S.set i (.own ds')) σ ⟨c.Z, upd c.H p (.lst vs'), c.F⟩ := by
  obtain ⟨A, Fi, B, x, e1, e2, ⟨p, vs, e3, e4, e5, e6⟩, up⟩ := h.l.at e
  subst e3 e4
  have pF : p ∈ c.F := by rw [e1]; simp
  refine ⟨p, vs, e2, e5, e6, fun ds' vs' r => ⟨⟨Same.refl _, fun b o q hn => (upd_ne (show b ≠ p from fun z => hn (z ▸ pF))).trans q, fun b o q => ?_, fun b o q => .inl q, fun b m => .inl m⟩, ⟨?_, h.nd, h.zf, fun b o q => ?_⟩⟩⟩
  · by_cases hb : b = p
    · subst hb
      exact ⟨_, upd_same⟩
    · exact ⟨o, (upd_ne hb).trans q⟩
  · have nd := h.nd
    rw [e1] at nd
    have q := up ⟨c.Z, upd c.H p (.lst vs'), c.F⟩ (.own ds') (some (.ref p)) [p] (Same.refl _) (fun a m => upd_ne (show a ≠ p by
      rintro rfl
      simp only [List.nodup_append, List.nodup_cons, List.mem_append, List.mem_cons] at nd m
      grind)) ⟨p, vs', rfl, rfl, upd_same, r⟩
    rw [list_set_self e2] at q
    show HoldsL K ⟨c.Z, upd c.H p (.lst vs'), c.F⟩ (S.set i (.own ds')) σ c.F
    have e1' := e1
    generalize c.F = FF at e1' q ⊢
    rw [e1']
    rw [e1'] at q
    exact q
  · have nb : b ≠ p := by
      rintro rfl
      have q' : c.Z b = some o := q
      rw [h.zf b pF] at q'
      cases q'
    exact (upd_ne nb).trans (h.zh b o q)
theorem Holds.mutD {K : PySem.W.Frag} {S : List Slot} {σ : Sg} {c : Cfg} {i : Nat} {t : Bool} {es : List (D × D)} (h : Holds K S σ c) (e : S[i]? = some (.dic t es)) :
    ∃ p, σ[i]? = some (some (V.ref p)) ∧ DicAt K c.Z (c.H p) t es ∧ ∀ es' u, DicAt K c.Z (some u) t es' →
      Stp c ⟨c.Z, upd c.H p u, c.F⟩ ∧ Holds K (S.set i (.dic t es')) σ ⟨c.Z, upd c.H p u, c.F⟩ := by
  obtain ⟨A, Fi, B, x, e1, e2, ⟨p, e3, e4, e5⟩, up⟩ := h.l.at e
  subst e3 e4
  have pF : p ∈ c.F := by rw [e1]; simp
  refine ⟨p, e2, e5, fun es' u r => ⟨⟨Same.refl _, fun b o q hn => (upd_ne (show b ≠ p from fun z => hn (z ▸ pF))).trans q, fun b o q => ?_, fun b o q => .inl q, fun b m => .inl m⟩, ⟨?_, h.nd, h.zf, fun b o q => ?_⟩⟩⟩
  · by_cases hb : b = p
    · subst hb
      exact ⟨_, upd_same⟩
    · exact ⟨o, (upd_ne hb).trans q⟩
  · have nd := h.nd
    rw [e1] at nd
    have q := up ⟨c.Z, upd c.H p u, c.F⟩ (.dic t es') (some (.ref p)) [p] (Same.refl _) (fun a m => upd_ne (show a ≠ p by
      rintro rfl
      simp only [List.nodup_append, List.nodup_cons, List.mem_append, List.mem_cons] at nd m
      grind)) ⟨p, rfl, rfl, by
        show DicAt K c.Z (upd c.H p u p) t es'
        rw [upd_same]
        exact r⟩
    rw [list_set_self e2] at q
    show HoldsL K ⟨c.Z, upd c.H p u, c.F⟩ (S.set i (.dic t es')) σ c.F
    have e1' := e1
    generalize c.F = FF at e1' q ⊢
    rw [e1']
    rw [e1'] at q
    exact q
  · have nb : b ≠ p := by
      rintro rfl
      have q' : c.Z b = some o := q
      rw [h.zf b pF] at q'
      cases q'
    exact (upd_ne nb).trans (h.zh b o q)
/-- a method that changes the list: what it hands back and what the list is then -/
def MtD (X : Cx) (id : String) (g : List D → List D → Option (D × List D)) : Prop := ∃ r, MtR X id r ∧
  ∀ (p : Addr) (vs us : List V) (ds as : List D) (d : D) (ds' : List D) (K : PySem.W.Frag) (c : Cfg) (Q : VK), g ds as = some (d, ds') → c.H p = some (.lst vs) → RpA K c.Z vs ds → RpA K c.Z us as →
    (∀ v vs', Rp K c.Z v d → RpA K c.Z vs' ds' → Q v (upd c.H p (.lst vs'))) → r (.ref p) us c.H Q
def eMut (i : Nat) (g : List D → List D → Option (D × List D)) (fa : EM (List D)) : EM D := fun S0 => match S0[i]? with
  | some (.own _) => eBind fa (fun as S => match S[i]? with
    | some (.own ds) => (match g ds as with
      | some (d, ds') => .ok d (S.set i (.own ds'))
      | none => .bad)
    | _ => .bad) S0
  | _ => .bad
variable {x : Str} {p apos : Pos} {name : Str} {id : String} {g : List D → List D → Option (D × List D)} {fa : EM (List D)} {e : Expr} {es : List Expr}
theorem mut_rd {r : V → List V → Hp → VK → Prop} {i : Nat} (hr : ∀ (p : Addr) (vs us : List V) (ds as : List D) (d : D) (ds' : List D) (K : PySem.W.Frag) (c : Cfg) (Q : VK), g ds as = some (d, ds') → c.H p = some (.lst vs) → RpA K c.Z vs ds → RpA K c.Z us as →
    (∀ v vs', Rp K c.Z v d → RpA K c.Z vs' ds' → Q v (upd c.H p (.lst vs'))) → r (.ref p) us c.H Q) (σ : Sg) (H : Hp) (Q : VK) (q : tD (gx X W) (eMut i g fa) σ H Q) :
    tBM X.K "list" r (tVar i) (tDs (gx X W) fa) σ H Q := by
  obtain ⟨S, Z, F, h, q⟩ := q
  unfold eMut at q
  split at q
  · rename_i ds0 e0
    obtain ⟨p0, vs0, e2, e3, _⟩ := h.mutO e0
    refine ⟨.ref p0, e2, .inl ⟨rfl, _, SqL.of e3⟩, S, Z, F, h, (Go.bind q).mono fun as S1 c1 s1 h1 q1 us ru => ?_⟩
    split at q1
    · rename_i ds e1
      obtain ⟨p1, vs1, e4, e5, r1, back⟩ := h1.mutO e1
      rw [e2] at e4
      cases e4
      cases eg : g ds as with
      | none => simp only [eg] at q1; exact q1.elim
      | some dd =>
        obtain ⟨d, ds'⟩ := dd
        simp only [eg] at q1
        refine hr p0 vs1 us ds as d ds' X.K c1 Q eg e5 r1 ru fun v vs' rv rs => ?_
        obtain ⟨st, hh⟩ := back ds' vs' rs
        exact q1 _ st hh v rv
    · exact q1.elim
  · exact q.elim
theorem de_mut (i : Nat) (hm : MtD X id g) (slot : PySem.Slot "list" name id) (hty : typeOf (.builtin id) = pure (.type "method_descriptor")) (ha : DA X W (e :: es) fa)
    (hN : X.N[i]? = some x := by rfl) (hv : Vis X.env.scope x := by first | exact Or.inl rfl | exact Or.inr (Or.inl rfl) | exact Or.inr (Or.inr rfl)) (hd : (x == ("__debug__" : Str)) = false := by decide) (hcd : (x == ("__classdict__" : Str)) = false := by decide)
    (hbase : attributeBase (.Name x p) name X.env (eval (.Name x p) X.env) = eval (.Name x p) X.env := by rfl)
    (hfew : ((backTo pos (starEach (e :: es) X.env)).all (fun x => !x.1) && (backToKw pos (keywordEach [] X.env)).all (fun x => x.1.isSome)
      && decide ((e :: es).length + ([] : List Keyword).length + (if ([] : List Keyword).isEmpty then 0 else 1) < 30)) = true := by rfl)
    (hline : (apos.endLine == pos.line) = true := by rfl) (hs : starEach (e :: es) X.env = (false, eval e X.env) :: starEach es X.env := by rfl) (hplain : (backTo pos (starEach es X.env)).any (·.1) = false := by rfl) :
    DE X W (.Call (.Attribute (.Name x p) name apos) (e :: es) [] pos) (eMut i g fa) := by
  obtain ⟨r, hm, hr⟩ := hm
  exact PE.wk (pe_bm PySem.F.plainAttrs_list slot hty hm (pe_var hN hv hd hcd) ha (hbase := hbase) (hfew := hfew) (hline := hline) (hs := hs) (hplain := hplain)) (mut_rd hr)
theorem de_mut0 (i : Nat) (hm : MtD X id g) (slot : PySem.Slot "list" name id) (hty : typeOf (.builtin id) = pure (.type "method_descriptor"))
    (hN : X.N[i]? = some x := by rfl) (hv : Vis X.env.scope x := by first | exact Or.inl rfl | exact Or.inr (Or.inl rfl) | exact Or.inr (Or.inr rfl)) (hd : (x == ("__debug__" : Str)) = false := by decide) (hcd : (x == ("__classdict__" : Str)) = false := by decide)
    (hbase : attributeBase (.Name x p) name X.env (eval (.Name x p) X.env) = eval (.Name x p) X.env := by rfl) (hline : (apos.endLine == pos.line) = true := by rfl) :
    DE X W (.Call (.Attribute (.Name x p) name apos) [] [] pos) (eMut i g aNil) := by
  obtain ⟨r, hm, hr⟩ := hm
  refine PE.wk (pe_bm0 PySem.F.plainAttrs_list slot hty hm (pe_var hN hv hd hcd) (hbase := hbase) (hline := hline)) fun σ H Q q => ?_
  obtain ⟨v, e2, ty, q2⟩ := mut_rd hr σ H Q q
  obtain ⟨S, Z, F, h, q3⟩ := q2
  exact ⟨v, e2, ty, q3 _ (Stp.refl _) h [] .nil⟩
def appD : List D → List D → Option (D × List D) := fun ds as => match as with
  | [a] => if ds.length < sizeLine then some (.none, ds ++ [a]) else none
  | _ => none
theorem md_append : MtD X "list.append" appD := by
  refine ⟨_, mt_append, fun p vs us ds as d ds' K c Q e hp rv ru q => ?_⟩
  unfold appD at e
  split at e
  · split at e
    · rename_i hl
      cases e
      obtain ⟨v, rfl, r⟩ := ru.one
      exact ⟨p, vs, v, rfl, rfl, hp, by rw [rv.length]; exact hl, q _ _ .non (rv.append (.cons r .nil))⟩
    · cases e
  · cases e
def popD : List D → List D → Option (D × List D) := fun ds as => match as with
  | [] => (ds[ds.length - 1]?).map fun d => (d, ds.dropLast)
  | _ => none
theorem RpA.dropLast {K : PySem.W.Frag} {Z : Hp} {vs : List V} {ds : List D} (h : RpA K Z vs ds) : RpA K Z vs.dropLast ds.dropLast := by
  rw [List.dropLast_eq_take, List.dropLast_eq_take, h.length]
  exact h.take _
theorem md_pop : MtD X "list.pop" popD := by
  refine ⟨_, mt_pop, fun p vs us ds as d ds' K c Q e hp rv ru q => ?_⟩
  unfold popD at e
  split at e
  · obtain ⟨d', e1, e2⟩ := Option.map_eq_some_iff.mp e
    cases e2
    cases ru
    obtain ⟨v, e3, r⟩ := rv.get e1
    exact ⟨p, vs, v, rfl, rfl, hp, by rw [rv.length]; exact e3, q _ _ r rv.dropLast⟩
  · cases e
def popAtD : List D → List D → Option (D × List D) := fun ds as => match as with
  | [.int i] => if -(2 ^ 63) ≤ i ∧ i < 2 ^ 63 then (seqIndex? i ds.length).bind fun k => (ds[k]?).map fun d => (d, ds.eraseIdx k) else none
  | _ => none
theorem md_popAt : MtD X "list.pop" popAtD := by
  refine ⟨_, mt_popAt, fun p vs us ds as d ds' K c Q e hp rv ru q => ?_⟩
  unfold popAtD at e
  split at e
  · split at e
    · rename_i hi
      obtain ⟨k, e1, e2⟩ := Option.bind_eq_some_iff.mp e
      obtain ⟨d', e3, e4⟩ := Option.map_eq_some_iff.mp e2
      cases e4
      cases ru.i1
      obtain ⟨v, e5, r⟩ := rv.get e3
      exact ⟨p, vs, _, k, v, rfl, rfl, hp, hi.1, hi.2, by rw [rv.length]; exact e1, e5, q _ _ r (rv.eraseIdx k)⟩
    · cases e
  · cases e
/-- xs.extend(ys): ys a list that stays -/
def extD : List D → List D → Option (D × List D) := fun ds as => match as with
  | [.list es] => if ds.length + es.length ≤ sizeLine then some (.none, ds ++ es) else none
  | _ => none
theorem de_ext (i : Nat) (ha : DA X W [e] fa)
    (hN : X.N[i]? = some x := by rfl) (hv : Vis X.env.scope x := by first | exact Or.inl rfl | exact Or.inr (Or.inl rfl) | exact Or.inr (Or.inr rfl)) (hd : (x == ("__debug__" : Str)) = false := by decide) (hcd : (x == ("__classdict__" : Str)) = false := by decide)
    (hbase : attributeBase (.Name x p) "extend" X.env (eval (.Name x p) X.env) = eval (.Name x p) X.env := by rfl)
    (hfew : ((backTo pos (starEach [e] X.env)).all (fun x => !x.1) && (backToKw pos (keywordEach [] X.env)).all (fun x => x.1.isSome)
      && decide ([e].length + ([] : List Keyword).length + (if ([] : List Keyword).isEmpty then 0 else 1) < 30)) = true := by rfl)
    (hline : (apos.endLine == pos.line) = true := by rfl) (hs : starEach [e] X.env = (false, eval e X.env) :: starEach [] X.env := by rfl) (hplain : (backTo pos (starEach [] X.env)).any (·.1) = false := by rfl) :
    DE X W (.Call (.Attribute (.Name x p) "extend" apos) [e] [] pos) (eMut i extD fa) := by
  refine PE.wk (pe_bm PySem.F.plainAttrs_list PySem.F.slot_list_extend PySem.F.type_list_extend mt_extend (pe_var hN hv hd hcd) ha (hbase := hbase) (hfew := hfew) (hline := hline) (hs := hs) (hplain := hplain)) fun σ H Q q => ?_
  obtain ⟨S, Z, F, h, q⟩ := q
  unfold eMut at q
  split at q
  · rename_i ds0 e0
    obtain ⟨p0, vs0, e2, e3, _⟩ := h.mutO e0
    refine ⟨.ref p0, e2, .inl ⟨rfl, _, SqL.of e3⟩, S, Z, F, h, (Go.bind q).mono fun as S1 c1 s1 h1 q1 us ru => ?_⟩
    split at q1
    · rename_i ds e1
      obtain ⟨p1, vs1, e4, e5, r1, back⟩ := h1.mutO e1
      rw [e2] at e4
      cases e4
      cases eg : extD ds as with
      | none => simp only [eg] at q1; exact q1.elim
      | some dd =>
        obtain ⟨d, ds'⟩ := dd
        simp only [eg] at q1
        unfold extD at eg
        split at eg
        · split at eg
          · rename_i hl
            cases eg
            obtain ⟨v, rfl, r⟩ := ru.one
            obtain ⟨b, zs, rfl, a1, r2⟩ := r.lstI
            obtain ⟨st, hh⟩ := back _ (vs1 ++ zs) (r1.append r2)
            exact ⟨p0, b, vs1, zs, rfl, rfl, e5, h1.zh _ _ a1, by rw [r1.length, r2.length]; exact hl, q1 _ st hh _ .non⟩
          · cases eg
        · cases eg
    · exact q1.elim
  · exact q.elim
/-- xs[i] = e -/
def setAtD (s : Slot) (k d : D) : Option Slot := match s with
  | .own ds => (match k with
    | .int n => (ixN ds.length n).map fun j => .own (ds.set j d)
    | _ => none)
  | .dic t es => if isKey t k && decide (es.length < sizeLine) then some (.dic t (esPut es k d)) else none
  | _ => none
def sSetIx (i : Nat) (fe fk : EM D) : SM := sOf fe fun d S0 => match slotAt S0 i with
  | some _ => sOf fk (fun k S => match (S[i]?).bind fun s => setAtD s k d with
    | some s' => .nx (S.set i s')
    | none => .bad) S0
  | none => .bad
theorem PSet.or {t t' : TSet} (h : PSet X t) (h' : PSet X t') : PSet X (fun o i v H Q => t o i v H Q ∨ t' o i v H Q) := by
  intro pins s σ H o i v ov iv u Q I ro ri rv q
  rcases q with q | q
  · exact h pins s σ H o i v ov iv u Q I ro ri rv q
  · exact h' pins s σ H o i v ov iv u Q I ro ri rv q
theorem setAt_rd {S : List Slot} {σ : Sg} {c : Cfg} {K : PySem.W.Frag} {i : Nat} {k d : D} {s' : Slot} {p0 : Addr} {y z : V} {Q : Hp → Prop} (h : Holds K S σ c) (e2 : σ[i]? = some (some (V.ref p0))) (e : ((S[i]?).bind fun s => setAtD s k d) = some s') (ry : Rp K c.Z y d) (rz : Rp K c.Z z k)
    (q : ∀ c', Stp c c' → Holds K (S.set i s') σ c' → Q c'.H) : rSetL (.ref p0) z y c.H Q ∨ rSetD (.ref p0) z y c.H Q := by
  obtain ⟨s, e1, e3⟩ := Option.bind_eq_some_iff.mp e
  unfold setAtD at e3
  split at e3
  · rename_i ds
    split at e3
    · rename_i n
      obtain ⟨j, e4, e5⟩ := Option.map_eq_some_iff.mp e3
      subst e5
      obtain ⟨p1, vs1, e6, e7, r1, back⟩ := h.mutO e1
      rw [e2] at e6
      cases e6
      cases rz
      obtain ⟨st, hh⟩ := back _ (vs1.set j y) (r1.set j ry)
      exact .inl ⟨p0, vs1, n, j, rfl, rfl, e7, by rw [r1.length]; exact e4, q _ st hh⟩
    · cases e3
  · rename_i t es
    split at e3
    · rename_i hk
      rw [Bool.and_eq_true] at hk
      cases e3
      obtain ⟨p1, e6, da, back⟩ := h.mutD e1
      rw [e2] at e6
      cases e6
      obtain ⟨u, g, da'⟩ := DicAt.put h.zh da hk.1 rz ry (of_decide_eq_true hk.2)
      obtain ⟨st, hh⟩ := back _ u da'
      exact .inr ⟨p0, _, rfl, g, q _ st hh⟩
    · cases e3
  · cases e3
theorem ds_setIx (hu : X.A.units + 64 < cLine) (i : Nat) {k v : Expr} {p2 : Pos} {fe fk : EM D} (hv : DE X W v fe) (hk : DE X W k fk)
    (hN : X.N[i]? = some x := by rfl) (hvis : Vis X.env.scope x := by first | exact Or.inl rfl | exact Or.inr (Or.inl rfl) | exact Or.inr (Or.inr rfl)) (hd : (x == ("__debug__" : Str)) = false := by decide) (hcd : (x == ("__classdict__" : Str)) = false := by decide)
    (ha : ∀ v, assign (.Subscript (.Name x p) k p2) X.env v = (do
      let ov ← holding [v] (eval (.Name x p) X.env)
      let iv ← holding [v, ov] (eval k X.env)
      standAt p2
      holding [v, ov, iv] (setItem ov iv v)
      release [v, ov, iv] []) := by intro _; rfl)
    (hs : swapsWithSole [.Subscript (.Name x p) k p2] v pos.line X.env = pure false := by rfl) (hw : swappedStores [.Subscript (.Name x p) k p2] v X.env = pure none := by rfl)
    (h1 : (assignEach [.Subscript (.Name x p) k p2] X.env).map (·.2) = [assign (.Subscript (.Name x p) k p2) X.env] := by rfl) :
    DS X W (.Assign [.Subscript (.Name x p) k p2] v pos) (sSetIx i fe fk) := by
  refine PS.wk (ps_asg hv (pg_sub (pe_var hN hvis hd hcd) hk (PSet.or set_list (set_dict (by omega))) ha) hs hw h1) fun Q σ H q => ?_
  obtain ⟨S, Z, F, h, q⟩ := q
  refine ⟨S, Z, F, h, Go.toS q fun d S1 c1 s1 h1 q1 y ry => ?_⟩
  split at q1
  · rename_i d0 e0
    obtain ⟨p0, e2, _⟩ := h1.loAt e0
    refine ⟨.ref p0, e2, S1, c1.Z, c1.F, h1, Go.toS q1 fun kk S2 c2 s2 h2 q2 z rz => ?_⟩
    split at q2
    · rename_i s' e1
      exact setAt_rd h2 e2 e1 (ry.mono s2.z) rz fun c' st hh => q2 σ c' st hh
    · exact q2.elim
  · exact q1.elim
end
end FW

/-! FwI: what a text's defs lean on, universal walks, isinstance, names of the module. -/
namespace FW
open PySem PySem.Spec L2
open PyProof.Rows hiding St
/-- the built-in names that the module does not hide -/
structure Blt (mg : Str → Option Value) : Prop where
  len : mg "len" = none
  range : mg "range" = none
  sum : mg "sum" = none
  tuple : mg "tuple" = none
  list : mg "list" = none
  int : mg "int" = none
  isinstance : mg "isinstance" = none
  any : mg "any" = none
  all : mg "all" = none
  abs : mg "abs" = none
  min : mg "min" = none
  max : mg "max" = none
  sorted : mg "sorted" = none
  set : mg "set" = none
  dict : mg "dict" = none
  str : mg "str" = none
  bool : mg "bool" = none
  zip : mg "zip" = none
theorem bt_len : bootBuiltins "len" = some (.builtin "len") := by decide +kernel
theorem bt_sum : bootBuiltins "sum" = some (.builtin "sum") := by decide +kernel
theorem bt_any : bootBuiltins "any" = some (.builtin "any") := by decide +kernel
theorem bt_all : bootBuiltins "all" = some (.builtin "all") := by decide +kernel
theorem bt_abs : bootBuiltins "abs" = some (.builtin "abs") := by decide +kernel
theorem bt_min : bootBuiltins "min" = some (.builtin "min") := by decide +kernel
theorem bt_max : bootBuiltins "max" = some (.builtin "max") := by decide +kernel
theorem bt_sorted : bootBuiltins "sorted" = some (.builtin "sorted") := by decide +kernel
theorem bt_isinstance : bootBuiltins "isinstance" = some (.builtin "isinstance") := by decide +kernel
theorem bt_tuple : bootBuiltins "tuple" = some (.type "tuple") := by decide +kernel
theorem bt_list : bootBuiltins "list" = some (.type "list") := by decide +kernel
theorem bt_int : bootBuiltins "int" = some (.type "int") := by decide +kernel
theorem bt_bool : bootBuiltins "bool" = some (.type "bool") := by decide +kernel
theorem bt_str : bootBuiltins "str" = some (.type "str") := by decide +kernel
theorem bt_set : bootBuiltins "set" = some (.type "set") := by decide +kernel
theorem bt_dict : bootBuiltins "dict" = some (.type "dict") := by decide +kernel
/-- a def that may be called by its name -/
def Cal (P : Program) (w : World) (K : PySem.W.Frag) (mg : Str → Option Value) (base : Heap) (CX : CXT) (x : Str) (ps : List Str) (k : Nat) (sp : Sp) : Prop :=
  ∃ f fd, FnOk P w K mg base CX k f fd ps sp ∧ mg x = some (.ref f) ∧ PySem.W.keepIn K (.ref f) = true ∧ L2.Binds K fd ps []
theorem Cal.mk' {P : Program} {w : World} {K : PySem.W.Frag} {mg : Str → Option Value} {base : Heap} {CX : CXT} {x : Str} {ps : List Str} {k : Nat} {sp : Sp} {f : Addr} {fd : FuncData} {qual : Str} {st : Stmt} (F : Fun K x qual st f fd) (o : FnOk P w K mg base CX k f fd ps sp) (g : mg x = some (.ref f)) (b : L2.Binds K fd ps []) : Cal P w K mg base CX x ps k sp :=
  ⟨f, fd, o, g, F.kp, b⟩
section
variable {X : Cx} {W : WX} {pos p : Pos} {x : Str} {e : Expr} {es : List Expr}
theorem de_fn {k m : Nat} {ps : List Str} {g : List D → Rs} {fa : EM (List D)} (C : Cal X.prog X.w X.K X.mg X.base CX0 x ps k (spD0 X.K m g)) (hr : Room k X.A) (ha : DA X W (e :: es) fa) (hg : Gl X x := by rfl) (hdb : (x == ("__debug__" : Str)) = false := by decide)
    (he : starEach (e :: es) X.env = (false, eval e X.env) :: starEach es X.env := by rfl) (hpl : (backTo pos (starEach es X.env)).any (·.1) = false := by rfl) : DE X W (.Call (.Name x p) (e :: es) [] pos) (eCall m g fa) := by
  obtain ⟨f, fd, F, hm, hk, hb⟩ := C
  exact de_call F hr hg hm hk hb ha hdb he hpl
theorem de_fnX {k m : Nat} {ps : List Str} {g : List D → Rs} {fa : EM (List D)} (tk : Takes X W) (C : Cal X.prog X.w X.K X.mg X.base (L2.CX X.prog X.w) x ps k (spDX X.K X.mg m g)) (hr : Room k X.A) (ha : DA X W (e :: es) fa) (hg : Gl X x := by rfl) (hdb : (x == ("__debug__" : Str)) = false := by decide)
    (he : starEach (e :: es) X.env = (false, eval e X.env) :: starEach es X.env := by rfl) (hpl : (backTo pos (starEach es X.env)).any (·.1) = false := by rfl) : DE X W (.Call (.Name x p) (e :: es) [] pos) (eCallX m g fa) := by
  obtain ⟨f, fd, F, hm, hk, hb⟩ := C
  exact de_callX tk F hr hg hm hk hb ha hdb he hpl
theorem de_fnW (i : Nat) {k m : Nat} {ps : List Str} {g : Addr → Int → List Int → List D → Rw} {fa : EM (List D)} {y : Str} {p2 : Pos} (C : Cal X.prog X.w X.K X.mg X.base CX0 x ps k (spW X.K m g)) (hr : Room k X.A) (ha : DA X W es fa) (hg : Gl X x := by rfl)
    (hN : X.N[i]? = some y := by rfl) (hv : Vis X.env.scope y := by first | exact Or.inl rfl | exact Or.inr (Or.inl rfl) | exact Or.inr (Or.inr rfl)) (hd : (y == ("__debug__" : Str)) = false := by decide) (hcd : (y == ("__classdict__" : Str)) = false := by decide)
    (hs : starEach (.Name y p2 :: es) X.env = (false, eval (.Name y p2) X.env) :: starEach es X.env := by rfl) (hdb : (x == ("__debug__" : Str)) = false := by decide) (hpl : (backTo pos (starEach es X.env)).any (·.1) = false := by rfl) :
    DE X W (.Call (.Name x p) (.Name y p2 :: es) [] pos) (eCallW i m g fa) := by
  obtain ⟨f, fd, F, hm, hk, hb⟩ := C
  exact de_callW i F hr hg hm hk hb ha hN hv hd hcd hs hdb hpl
/-- a number of the module's top -/
theorem de_gint {n : Int} (h : ∃ t, X.mg x = some (.int n t)) (hg : Gl X x := by rfl) (hd : (x == ("__debug__" : Str)) = false := by decide) : DE X W (.Name x pos) (eC (.int n)) := by
  obtain ⟨t, h⟩ := h
  exact de_c (pe_glob (v := .int n) hg h ⟨t, rfl⟩ hd) fun _ => .int n
/-- a tuple of the module's top, to the right of a comparison -/
def OpDK (X : Cx) (W : WX) (f : Value → Value → Sem Value) (g : D → D → Option D) : Prop := ∃ r : R2, OpR X f r ∧
  ∀ (x y : V) (a b d : D) (S : List Slot) (σ : Sg) (c : Cfg) (Q : VK), g a b = some d → Holds X.K S σ c → Lo X.K c x a → Dp X.K c.H y b → noDict b = true →
    (∀ c' v, Stp c c' → Holds X.K S σ c' → Rp X.K c'.Z v d → Q v c'.H) → r x y c.H Q
theorem ok_in (hu : X.A.units + 64 < cLine) : OpDK X W (compareOp .In) inD := by
  refine ⟨_, op_inP, fun x y a b d S σ c Q e hh ra rb nb q => ?_⟩
  unfold inD at e
  split at e
  · simp [noDict] at nb
  obtain ⟨ds, e1, e2⟩ := Option.bind_eq_some_iff.mp e
  split at e2
  · rename_i hs
    obtain ⟨n1, n2, hs⟩ := inOk_get hs
    cases e2
    refine ⟨a, ds, ra.dp hh.zh n1, ?_, noDict_plain a n1, noDictA_plain ds n2, shal_in hs hu, q c _ (Stp.refl _) hh (.bl _)⟩
    unfold itemsD at e1
    split at e1
    · cases e1; exact .inl rb
    · cases e1; exact .inr rb
    · cases e1
  · cases e2
theorem ok_nin (hu : X.A.units + 64 < cLine) : OpDK X W (compareOp .NotIn) ninD := by
  refine ⟨_, op_notInP, fun x y a b d S σ c Q e hh ra rb nb q => ?_⟩
  unfold ninD at e
  split at e
  · simp [noDict] at nb
  obtain ⟨ds, e1, e2⟩ := Option.bind_eq_some_iff.mp e
  split at e2
  · rename_i hs
    obtain ⟨n1, n2, hs⟩ := inOk_get hs
    cases e2
    refine ⟨a, ds, ra.dp hh.zh n1, ?_, noDict_plain a n1, noDictA_plain ds n2, shal_in hs hu, q c _ (Stp.refl _) hh (.bl _)⟩
    unfold itemsD at e1
    split at e1
    · cases e1; exact .inl rb
    · cases e1; exact .inr rb
    · cases e1
  · cases e2
theorem de_cmpK {op : CmpOp} {g : D → D → Option D} {ea : Expr} {fa : EM D} {px : Pos} {b : D} (ho : OpDK X W (compareOp op) g) (ha : DE X W ea fa) (h : ∃ a, X.mg x = some (.ref a) ∧ ∀ Z, Dp X.K Z (.ref a) b) (nb : noDict b = true)
    (hm : behindInMarks op (.Name x px) = false := by rfl) (hg : Gl X x := by rfl) (hd : (x == ("__debug__" : Str)) = false := by decide) : DE X W (.Compare ea [op] [.Name x px] pos) (eBin g fa (eC b)) := by
  obtain ⟨r, ho, hr⟩ := ho
  obtain ⟨p, h1, h2⟩ := h
  refine PE.wk (pe_cmpR ho ha (pe_glob (v := .ref p) hg h1 rfl hd) hm) fun σ H Q q => ?_
  obtain ⟨S, Z, F, hh, q⟩ := q
  refine ⟨S, Z, F, hh, (Go.bind q).mono fun a S1 c1 s1 h1' q1 v rv => ?_⟩
  obtain ⟨d, e, k⟩ := Go.opt (show Go _ σ c1 (eOpt (g a b) S1) _ from q1)
  exact hr v _ a b d S1 σ c1 Q e h1' (.z rv) (h2 _) nb fun c' v st h' rv => k c' st h' v rv
theorem dt_cmpK {op : CmpOp} {g : D → D → Option D} {ea : Expr} {fa : EM D} {px : Pos} {b : D} (ho : OpDK X W (compareOp op) g) (ha : DE X W ea fa) (h : ∃ a, X.mg x = some (.ref a) ∧ ∀ Z, Dp X.K Z (.ref a) b) (nb : noDict b = true)
    (hm : behindInMarks op (.Name x px) = false := by rfl) (hg : Gl X x := by rfl) (hd : (x == ("__debug__" : Str)) = false := by decide) : DT X W (.Compare ea [op] [.Name x px] pos) (bOf (eBin g fa (eC b))) := by
  obtain ⟨r, ho, hr⟩ := ho
  obtain ⟨p, h1, h2⟩ := h
  refine PT.wk (pt_cmpR ho ha (pe_glob (v := .ref p) hg h1 rfl hd) hm) fun σ H Q q => ?_
  obtain ⟨S, Z, F, hh, q⟩ := bof_rd σ H Q q
  refine ⟨S, Z, F, hh, (Go.bind q).mono fun a S1 c1 s1 h1' q1 v rv => ?_⟩
  obtain ⟨d, e, k⟩ := Go.opt (show Go _ σ c1 (eOpt (g a b) S1) _ from q1)
  exact hr v _ a b d S1 σ c1 _ e h1' (.z rv) (h2 _) nb fun c' v st h' rv => k c' st h' v rv
/-! ### what is walked, whatever it is -/
def signs (z : Str) : List D := z.cps.toList.map fun c => PyData.str ⟨#[c]⟩
def walkD : D → Option (List D)
  | .list ds => some ds
  | .tuple ds => some ds
  | _ => none
def iS (f : EM D) : EM (List D) := eBind f fun d => eOpt (walkD d)
theorem di_seq {tg : Expr} {f : EM D} (he : DE X W e f) : DI X W tg e (iS f) := by
  refine ⟨fun pins s σ H R I q => ?_⟩
  obtain ⟨S, Z, F, h, q⟩ := q
  unfold iS eBind at q
  cases ef : f S with
  | bad => rw [ef] at q; exact q.elim
  | ex y S' => 
    rw [ef] at q
    refine (di_list he).run pins s σ H R I ⟨S, Z, F, h, ?_⟩
    unfold iL eBind
    rw [ef]
    exact q
  | ok d S' =>
    rw [ef] at q
    cases d with
    | list ds =>
      refine (di_list he).run pins s σ H R I ⟨S, Z, F, h, ?_⟩
      unfold iL eBind
      rw [ef]
      exact q
    | tuple ds =>
      refine (di_tup he).run pins s σ H R I ⟨S, Z, F, h, ?_⟩
      unfold iT eBind
      rw [ef]
      exact q
    | _ => exact q.elim
/-- range of three -/
def rng3 : List D → Option (List D)
  | [.int i, .int j, .int k] => if k ≠ 0 ∧ k.natAbs < 1073741824 ∧ Builtin.Range.small i j k = true ∧ 0 ≤ Builtin.Range.rangeSize i j k then some (intsC i k (Builtin.Range.rangeSize i j k).toNat) else none
  | _ => none
def iR3 (f : EM (List D)) : EM (List D) := eBind f fun ds => eOpt (rng3 ds)
theorem di_range3 {tg a b c : Expr} {f : EM (List D)} (hm : X.mg "range" = none) (ha : DA X W [a, b, c] f) (hg : Gl X "range" := by rfl)
    (hs : starEach [a, b, c] X.env = (false, eval a X.env) :: starEach [b, c] X.env := by rfl) (hpl : (backTo pos (starEach [b, c] X.env)).any (·.1) = false := by rfl) : DI X W tg (.Call (.Name "range" p) [a, b, c] [] pos) (iR3 f) := by
  refine PI.wk (pi_range3 hg hm ha hs hpl) fun σ H R q => ?_
  obtain ⟨S, Z, F, h, q⟩ := q
  refine ⟨S, Z, F, h, (Go.bind q).mono fun ds S1 c1 s1 h1 q1 vs rs => ?_⟩
  obtain ⟨es, e, k⟩ := Go.opt q1
  unfold rng3 at e
  split at e
  · split at e
    · rename_i i j k' hc
      cases e
      exact ⟨i, j, k', (Builtin.Range.rangeSize i j k').toNat, rs.i3, ⟨hc.1, hc.2.1, hc.2.2.1, (Int.toNat_of_nonneg hc.2.2.2).symm⟩, k c1 (Stp.refl _) h1 _ (ItOk.rngC _ _ i k' _)⟩
    · cases e
  · cases e
/-! ### isinstance -/
def tyName : D → String
  | .none => "NoneType"
  | .bool _ => "bool"
  | .int _ => "int"
  | .str _ => "str"
  | .list _ => "list"
  | .tuple _ => "tuple"
  | .dict _ => "dict"
def notDict : D → Bool
  | .dict _ => false
  | _ => true
def isiD (T : String) (d : D) : Option D := if notDict d then (kitB (tyName d) T).map PyData.bool else none
theorem Rp.ty {K : PySem.W.Frag} {Z H : Hp} (sm : Same Z H) {v : V} {d : D} (h : Rp K Z v d) (n : notDict d = true) : TyX K H v (.type (tyName d)) := by
  cases h with
  | non => exact .base .non
  | bl b => exact .base (.bl b)
  | int i => exact .base (.int i)
  | str x => exact .base (.str x)
  | lst h1 h2 => exact .base (.lst (sm _ _ h1))
  | tup h1 h2 => exact .base (.tup (sm _ _ h1))
  | dk => cases n
  | dt => cases n
  | ob => cases n
theorem de_isi {T : String} {y : Str} {p2 : Pos} {f : EM D} (he : DE X W e f) (hb : X.mg "isinstance" = none) (hT : X.mg y = none) (bt : bootBuiltins y = some (.type T)) (hg : Gl X "isinstance" := by rfl) (hgT : Gl X y := by rfl)
    (hn : y ≠ "__name__" := by decide) (hd : (y == ("__debug__" : Str)) = false := by decide) (hs1 : starEach [.Name y p2] X.env = (false, eval (.Name y p2) X.env) :: starEach [] X.env := by rfl)
    (hs : starEach [e, .Name y p2] X.env = (false, eval e X.env) :: starEach [.Name y p2] X.env := by rfl) (hpl : (backTo pos (starEach [.Name y p2] X.env)).any (·.1) = false := by rfl) :
    DE X W (.Call (.Name "isinstance" p) [e, .Name y p2] [] pos) (eUn (isiD T) f) := by
  refine PE.wk (pe_callB call_isi hg hb bt_isinstance (pa_cons he (pa_cons (pe_bltn (v := .ty T) hgT hT bt rfl hn hd) pa_nil hs1) hs) (he := hs) (hpl := hpl)) fun σ H Q q => ?_
  obtain ⟨S, Z, F, h, q⟩ := q
  refine ⟨S, Z, F, h, (Go.bind q).mono fun a S1 c1 s1 h1 q1 v rv => ?_⟩
  obtain ⟨d, e, k⟩ := Go.opt q1
  unfold isiD at e
  split at e
  rotate_left
  · cases e
  rename_i nd
  obtain ⟨b, e1, e2⟩ := Option.map_eq_some_iff.mp e
  subst e2
  exact ⟨v, .ty T, _, .type T, b, rfl, .ty T, rv.ty h1.zh nd, kit_ty e1, k c1 (Stp.refl _) h1 _ (.bl b)⟩
end
end FW

set_option maxHeartbeats 4000000
/-! FwJ: products of numbers and sequences, ranges as lists. -/
namespace FW
open PySem PySem.Spec L2
open PyProof.Rows hiding St
theorem tmul_same (l : Addr) (items : Array Value) (n : Nat) (dd : Option Addr) (sl : Array (Option Value)) (x : Int) (u : Tok) (a0 : (decide (x < -(2 ^ 63)) || decide (x ≥ 2 ^ 63)) = false) (a1 : (items.isEmpty || x == 1) = true) :
    Meets (Builtin.«tuple.__mul__» ⟨[.ref l, .int x u], []⟩) (fun _ R s => s.heap.get? l = some { cls := .type "tuple", dict := dd, data := .seq items n, slots := sl } ∧ R (.ok (.ret (Value.ref l))) s) :=
  .of_wp fun prog w A R s h => by
    obtain ⟨hp, g, d, tk, os⟩ := s
    obtain ⟨hl, h⟩ := h
    have f1 := AutoSeq1.idx_int
    wp_walk using wpAny_loadPart' hl
    refine wpAny_ite_false (decide_eq_false (by rw [a0]; exact Bool.false_ne_true)) ?_
    wp_walk using wpAny_loadPart' hl
    exact ⟨_, rfl, h⟩
theorem tmul_none (l : Addr) (items : Array Value) (n : Nat) (dd : Option Addr) (sl : Array (Option Value)) (x : Int) (u : Tok) (a0 : (decide (x < -(2 ^ 63)) || decide (x ≥ 2 ^ 63)) = false) (a1 : (items.isEmpty || x == 1) = false) (a2 : (decide (x ≤ 0) || items.isEmpty) = true) :
    Meets (Builtin.«tuple.__mul__» ⟨[.ref l, .int x u], []⟩) (fun _ R s => s.heap.get? l = some { cls := .type "tuple", dict := dd, data := .seq items n, slots := sl } ∧
      R (.ok (.ret (Value.ref s.heap.objs.size))) { s with heap := s.heap.push { cls := Value.type "tuple", data := Data.seq #[] }, toks := s.toks }) :=
  .of_wp fun prog w A R s h => by
    obtain ⟨hp, g, d, tk, os⟩ := s
    obtain ⟨hl, h⟩ := h
    have f1 := AutoSeq1.idx_int
    wp_walk using wpAny_loadPart' hl
    refine wpAny_ite_false (decide_eq_false (by rw [a0]; exact Bool.false_ne_true)) ?_
    wp_walk using wpAny_loadPart' hl
    exact ⟨_, rfl, h⟩
section
variable {X : Cx} {W : WX} {pos p : Pos}
/-- tuple * number, any number within the machine's line -/
def rRepA (K : PySem.W.Frag) : R2 := fun x y H Q => ∃ l k xs, x = .ref l ∧ y = .int k ∧ SqT K H l xs ∧ -1000 ≤ k ∧ k ≤ 1000 ∧ xs.length ≤ 1000 ∧
  (xs = [] ∨ k = 1 → Q (.ref l) H) ∧ (¬ (xs = [] ∨ k = 1) → ∀ p, H p = none → Q (.ref p) (upd H p (.tup (List.replicate k.toNat xs).flatten)))
theorem op_repA : OpR X (binaryOp .Mult) (rRepA X.K) := by
  intro pins s σ H x y v u Q I rx ry h
  obtain ⟨l, k, xs, rfl, rfl, hT, h1, h2, hz, q1, q2⟩ := h
  by_cases hbig : xs ≠ [] ∧ 2 ≤ k
  · exact op_repT pins s σ H _ _ v u Q I rx ry ⟨l, k, xs, rfl, rfl, hT, hbig.1, hbig.2, h2, hz, q2 (by rintro (z | z); exact hbig.1 z; omega)⟩
  · cases rx
    obtain ⟨t, rfl⟩ := ry
    obtain ⟨its, r, ⟨⟨cls, dd, data, sl⟩, ho, hc, n, hd⟩, hs⟩ := I.tuple hT
    simp only at hc hd
    subst hc hd
    have hle := r.length
    have b0 : (decide (k < -(2 ^ 63)) || decide (k ≥ 2 ^ 63)) = false := by
      rw [decide_eq_false (by omega), decide_eq_false (by omega)] <;> rfl
    have hem : its.toArray.isEmpty = decide (xs = []) := by
      cases its with
      | nil => cases r; rfl
      | cons a b => cases r; rfl
    by_cases hw : xs = [] ∨ k = 1
    · have b1 : (its.toArray.isEmpty || k == 1) = true := by
        rw [hem]
        rcases hw with z | z
        · rw [decide_eq_true z]; rfl
        · rw [z]; simp
      refine wpAny_binaryOp_repeat_ref (T := "tuple") (U := "int") (by decide) ⟨_, ho, rfl⟩ (fun s' => typeIs_int s' k t) noFill_tuple_mul F.fills_int_mul F.slot_int_rmul repeat_tuple F.slot_int_index.lookup
        (call_meets F.slot_int_rmul (typeIs_int s k t) F.entry_int_rmul (F.args_int_rmul_2 _ _) (int_rmul_tuple k t l its.toArray n dd sl)
          ⟨ho, rfl, ⟨_, ho, rfl⟩, call_meets F.slot_tuple_mul ⟨_, ho, rfl⟩ F.entry_tuple_mul (F.args_tuple_mul_2 _ _) (tmul_same l its.toArray n dd sl k t b0 b1) ⟨ho, ?_⟩⟩)
      exact ⟨.ref l, H, I, rfl, q1 hw⟩
    · have hk : k ≤ 0 := by
        rcases Int.lt_or_le 0 k with z | z
        · exfalso
          refine hbig ⟨fun e => hw (.inl e), ?_⟩
          have : k ≠ 1 := fun e => hw (.inr e)
          omega
        · exact z
      have b1 : (its.toArray.isEmpty || k == 1) = false := by
        rw [hem, decide_eq_false fun e => hw (.inl e), Bool.false_or]
        exact beq_eq_false_iff_ne.mpr (by omega)
      have b2 : (decide (k ≤ 0) || its.toArray.isEmpty) = true := by
        rw [decide_eq_true hk]
        rfl
      refine wpAny_binaryOp_repeat_ref (T := "tuple") (U := "int") (by decide) ⟨_, ho, rfl⟩ (fun s' => typeIs_int s' k t) noFill_tuple_mul F.fills_int_mul F.slot_int_rmul repeat_tuple F.slot_int_index.lookup
        (call_meets F.slot_int_rmul (typeIs_int s k t) F.entry_int_rmul (F.args_int_rmul_2 _ _) (int_rmul_tuple k t l its.toArray n dd sl)
          ⟨ho, rfl, ⟨_, ho, rfl⟩, call_meets F.slot_tuple_mul ⟨_, ho, rfl⟩ F.entry_tuple_mul (F.args_tuple_mul_2 _ _) (tmul_none l its.toArray n dd sl k t b0 b1 b2) ⟨ho, ?_⟩⟩)
      have z := q2 hw s.heap.objs.size (I.hok.fresh (Nat.le_refl _))
      have e0 : k.toNat = 0 := by omega
      rw [e0] at z
      exact ⟨.ref s.heap.objs.size, _, I.laid (t' := s.toks) (o := .tup []) (fun b ob q => Heap.get?_push_of_some _ q) (Nat.le_refl _) ⟨Nat.zero_le _, [], .nil, IsTup.new _ _⟩, rfl, z⟩
def mulD : D → D → Option D
  | .int i, .int j => if (-(2 ^ 64) < i ∧ i < 2 ^ 64) ∨ (-(2 ^ 64) < j ∧ j < 2 ^ 64) then some (.int (i * j)) else none
  | .tuple xs, .int k => if -1000 ≤ k ∧ k ≤ 1000 ∧ xs.length ≤ 1000 then some (.tuple (List.replicate k.toNat xs).flatten) else none
  | .list xs, .int k => if -(2 ^ 63) ≤ k ∧ k < 2 ^ 63 ∧ xs.length * k.toNat ≤ sizeLine then some (.list (List.replicate k.toNat xs).flatten) else none
  | _, _ => none
theorem od_mul : OpD X W (binaryOp .Mult) mulD := by
  refine ⟨_, (op_mul.or op_repA).or op_rep, fun x y a b d S σ c Q e hh ra rb q => ?_⟩
  unfold mulD at e
  split at e
  · split at e
    · rename_i hc
      cases e
      cases ra.intI
      cases rb.intI
      exact .inl (.inl ⟨_, _, rfl, rfl, hc, q c _ (Stp.refl _) hh (.int _)⟩)
    · cases e
  · split at e
    · rename_i hc
      cases e
      cases rb.intI
      have ra' := ra.tupZ
      obtain ⟨p, xs, rfl, s1, r1⟩ := ra.tupI
      refine .inl (.inr ⟨p, _, xs, rfl, rfl, sameT hh.zh s1, hc.1, hc.2.1, by rw [r1.length]; exact hc.2.2, fun hw => ?_, fun hw pn hp => ?_⟩)
      · refine q c _ (Stp.refl _) hh ?_
        rcases hw with z | z
        · have := (r1.nil_iff).mp z
          subst this
          simpa using ra'
        · subst z
          simpa using ra'
      · obtain ⟨st, h2, r⟩ := hh.layT hp (r1.rep _)
        exact q _ _ st h2 r
    · cases e
  · split at e
    · rename_i hc
      cases e
      cases rb.intI
      obtain ⟨p, xs, rfl, s1, r1⟩ := ra.lstI hh.zh
      refine .inr ⟨p, _, xs, rfl, rfl, s1, hc.1, hc.2.1, by rw [r1.length]; exact hc.2.2, fun pn hp => ?_⟩
      obtain ⟨st, h2, r⟩ := hh.layL hp (r1.rep _)
      exact q _ _ st h2 r
    · cases e
  · cases e
/-- a fresh list by an operation: [..] * n -/
def eBinF (g : D → D → Option (List D)) (fa fb : EM D) : EM (List D) := eBind fa fun a => eBind fb fun b => eOpt (g a b)
def repF : D → D → Option (List D)
  | .list xs, .int k => if -(2 ^ 63) ≤ k ∧ k < 2 ^ 63 ∧ xs.length * k.toNat ≤ sizeLine then some (List.replicate k.toNat xs).flatten else none
  | _, _ => none
theorem df_rep {ea eb : Expr} {fa fb : EM D} (ha : DE X W ea fa) (hb : DL X W eb fb) : DF X W (.BinOp ea .Mult eb pos) (eBinF repF fa fb) := by
  refine PE.wk (pe_op op_rep ha hb) fun σ H Q q => ?_
  obtain ⟨S, Z, F, h, q⟩ := q
  refine ⟨S, Z, F, h, (Go.bind q).mono fun a S1 c1 s1 h1 q1 x rx => ?_⟩
  refine ⟨S1, c1.Z, c1.F, h1, (Go.bind q1).mono fun b S2 c2 s2 h2 q2 y ry => ?_⟩
  obtain ⟨d, e, k⟩ := Go.opt q2
  unfold repF at e
  split at e
  · split at e
    · rename_i hc
      cases e
      cases ry.intI
      obtain ⟨p, xs, rfl, a1, r1⟩ := (rx.mono s2.z).lstI
      exact ⟨p, _, xs, rfl, rfl, h2.zh _ _ a1, hc.1, hc.2.1, by rw [r1.length]; exact hc.2.2, fun pn hp => k c2 (Stp.refl _) h2 pn _ hp (r1.rep _)⟩
    · cases e
  · cases e
/-- list(range(..)) -/
def tRgD (G : Gx) (f : EM (Int × Int)) : Sg → Hp → (Int → Int → Hp → Prop) → Prop := fun σ H Q => ∃ S Z F, Holds G.K S σ ⟨Z, H, F⟩ ∧ Go G σ ⟨Z, H, F⟩ (f S) (fun ij _ c' => Q ij.1 ij.2 c'.H)
def rgOk (a b : Int) : Bool := decide (-(2 ^ 62) ≤ a ∧ a < 2 ^ 62 ∧ -(2 ^ 62) ≤ b ∧ b < 2 ^ 62 ∧ (b - a).toNat ≤ 2 ^ 24)
theorem rgOk_ok {a b : Int} (h : rgOk a b = true) : RgOk a b := by
  unfold rgOk at h
  have q : -(2 ^ 62) ≤ a ∧ a < 2 ^ 62 ∧ -(2 ^ 62) ≤ b ∧ b < 2 ^ 62 ∧ (b - a).toNat ≤ 2 ^ 24 := of_decide_eq_true h
  exact q
def lr1 : D → Option (List D)
  | .int j => if rgOk 0 j then some (intsD 0 (j - 0).toNat) else none
  | _ => none
def lr2 : D → D → Option (List D)
  | .int i, .int j => if rgOk i j then some (intsD i (j - i).toNat) else none
  | _, _ => none
theorem rgV_rp (K : PySem.W.Frag) (Z : Hp) (a b : Int) : RpA K Z (rgV a b) (intsD a (b - a).toNat) := by
  have e : intsD a (b - a).toNat = ((List.range (b - a).toNat).map fun i => a + ((i : Nat) : Int)).map PyData.int := by
    unfold intsD
    rw [List.map_map]
    rfl
  have e2 : rgV a b = ((List.range (b - a).toNat).map fun i => a + ((i : Nat) : Int)).map V.int := by
    unfold rgV
    rw [List.map_map]
    rfl
  rw [e, e2]
  exact RpA.ofI _
def eLr1 (f : EM D) : EM (List D) := eBind f fun d => eOpt (lr1 d)
def eLr2 (f g : EM D) : EM (List D) := eBind f fun d => eBind g fun e => eOpt (lr2 d e)
theorem df_lrng1 {a : Expr} {fa : EM D} {p2 pos2 : Pos} (hl : X.mg "list" = none) (hr : X.mg "range" = none) (ha : DE X W a fa) (hc : X.calm = true := by rfl) (hgl : Gl X "list" := by rfl) (hgr : Gl X "range" := by rfl)
    (na : starEach [a] X.env = (false, eval a X.env) :: starEach [] X.env := by rfl) (nb : starEach [.Call (.Name "range" p2) [a] [] pos2] X.env = (false, eval (.Call (.Name "range" p2) [a] [] pos2) X.env) :: starEach [] X.env := by rfl) :
    DF X W (.Call (.Name "list" p) [.Call (.Name "range" p2) [a] [] pos2] [] pos) (eLr1 fa) := by
  refine PE.wk (pe_listRg hc hgl hl (prg_1 hgr hr ha na) nb) fun σ H Q q => ?_
  obtain ⟨S, Z, F, h, q⟩ := q
  refine ⟨S, Z, F, h, (Go.bind q).mono fun d S1 c1 s1 h1 q1 x rx => ?_⟩
  obtain ⟨es, e, k⟩ := Go.opt q1
  unfold lr1 at e
  split at e
  · split at e
    · rename_i hc
      cases e
      cases rx
      exact ⟨_, rfl, rgOk_ok hc, fun pn hp => k c1 (Stp.refl _) h1 pn _ hp (rgV_rp _ _ 0 _)⟩
    · cases e
  · cases e
theorem df_lrng2 {a b : Expr} {fa fb : EM D} {p2 pos2 : Pos} (hl : X.mg "list" = none) (hr : X.mg "range" = none) (ha : DE X W a fa) (hb : DE X W b fb) (hc : X.calm = true := by rfl) (hgl : Gl X "list" := by rfl) (hgr : Gl X "range" := by rfl)
    (na : starEach [a, b] X.env = (false, eval a X.env) :: starEach [b] X.env := by rfl) (na2 : starEach [b] X.env = (false, eval b X.env) :: starEach [] X.env := by rfl) (np : (backTo pos2 (starEach [b] X.env)).any (·.1) = false := by rfl) (nb : starEach [.Call (.Name "range" p2) [a, b] [] pos2] X.env = (false, eval (.Call (.Name "range" p2) [a, b] [] pos2) X.env) :: starEach [] X.env := by rfl) :
    DF X W (.Call (.Name "list" p) [.Call (.Name "range" p2) [a, b] [] pos2] [] pos) (eLr2 fa fb) := by
  refine PE.wk (pe_listRg hc hgl hl (prg_2 hgr hr ha hb na na2 (hp := np)) nb) fun σ H Q q => ?_
  obtain ⟨S, Z, F, h, q⟩ := q
  refine ⟨S, Z, F, h, (Go.bind q).mono fun d S1 c1 s1 h1 q1 x rx => ?_⟩
  refine ⟨S1, c1.Z, c1.F, h1, (Go.bind q1).mono fun d2 S2 c2 s2 h2 q2 y ry => ?_⟩
  obtain ⟨es, e, k⟩ := Go.opt q2
  unfold lr2 at e
  split at e
  · split at e
    · rename_i hc
      cases e
      cases rx
      cases ry
      exact ⟨_, _, rfl, rfl, rgOk_ok hc, fun pn hp => k c2 (Stp.refl _) h2 pn _ hp (rgV_rp _ _ _ _)⟩
    · cases e
  · cases e
/-! ### x += e, a, b, c = x, y, z -/
def addI : D → D → Option D := intOp fun i j => some (i + j)
theorem ip_int {op : Operator} {g : Int → Int → Int} (h : PIp X op (ipI g)) : IpD X op (intOp fun i j => some (g i j)) := by
  refine ⟨_, h, fun x y a b d S σ c Q e hh ra rb q => ?_⟩
  obtain ⟨i, j, k, rfl, rfl, e2, rfl⟩ := intOp_some e
  cases ra
  cases rb
  cases e2
  exact ⟨i, j, rfl, rfl, q c _ (Stp.refl _) hh (.int _)⟩
theorem ip_addD : IpD X .Add addI := ip_int ip_add
theorem ip_subD : IpD X .Sub subD := ip_int ip_sub
def gThree (i j l : Nat) : List D → List Slot → Option (List Slot) := fun ds S => match ds with
  | [a, b, c] => (gN i a S).bind fun S' => (gN j b S').bind fun S'' => gN l c S''
  | _ => none
def sPar3 (i j l : Nat) (f : EM (List D)) : SM := sOf f fun ds S => match gThree i j l ds S with | some S' => .nx S' | none => .bad
theorem ds_par3 (i j l : Nat) {x y z : Str} {a b c : Expr} {f : EM (List D)} {px py pz pt : Pos} {kt k2 pt2} (hc : X.calm = true) (hN : X.N.Nodup) (ha : DA X W [a, b, c] f) (hij : i ≠ j) (hil : i ≠ l) (hjl : j ≠ l) (hi : X.N[i]? = some x := by rfl) (hj : X.N[j]? = some y := by rfl) (hl : X.N[l]? = some z := by rfl)
    (hx : X.env.scope.names.lookup x = some .local := by rfl) (hy : X.env.scope.names.lookup y = some .local := by rfl) (hz : X.env.scope.names.lookup z = some .local := by rfl)
    (hw : swappedStores [.Tuple [.Name x px, .Name y py, .Name z pz] kt pt] (.Tuple [a, b, c] k2 pt2) X.env = pure (some [x, y, z]) := by rfl)
    (hs : swapsWithSole [.Tuple [.Name x px, .Name y py, .Name z pz] kt pt] (.Tuple [a, b, c] k2 pt2) pos.line X.env = pure false := by rfl) :
    DS X W (.Assign [.Tuple [.Name x px, .Name y py, .Name z pz] kt pt] (.Tuple [a, b, c] k2 pt2) pos) (sPar3 i j l f) := by
  refine PS.wk (ps_par3 hc hN hi hj hl hij hil hjl hx hy hz ha hw hs) fun Q σ H q => ?_
  obtain ⟨S, Z, F, h, q⟩ := q
  refine ⟨S, Z, F, h, Go.toS q fun ds S1 c1 s1 h1 q1 vs rs => ?_⟩
  match ds, rs with
  | [], _ => exact q1.elim
  | [_], _ => exact q1.elim
  | [_, _], _ => exact q1.elim
  | [d1, d2, d3], .cons r1 (.cons r2 (.cons r3 .nil)) =>
    refine ⟨_, _, _, rfl, ?_⟩
    cases e : gThree i j l [d1, d2, d3] S1 with
    | none => rw [e] at q1; exact q1.elim
    | some S2 =>
      rw [e] at q1
      have e' : (gN i d1 S1).bind (fun S' => (gN j d2 S').bind fun S'' => gN l d3 S'') = some S2 := e
      obtain ⟨S3, e1, e2⟩ := Option.bind_eq_some_iff.mp e'
      obtain ⟨S4, e3, e4⟩ := Option.bind_eq_some_iff.mp e2
      unfold gN at e1 e3 e4
      split at e1
      · rename_i hl1
        cases e1
        split at e3
        · rename_i hl2
          cases e3
          split at e4
          · rename_i hl3
            cases e4
            obtain ⟨F', st, h'⟩ := h1.setD hl1 r1
            obtain ⟨F2, st2, h2⟩ := h'.setD hl2 r2
            obtain ⟨F3, st3, h3⟩ := h2.setD hl3 r3
            exact q1 _ ⟨c1.Z, c1.H, F3⟩ ((st.trans st2).trans st3) h3
          · cases e4
        · cases e3
      · cases e1
  | _ :: _ :: _ :: _ :: _, _ => exact q1.elim
end
end FW

/-! FwK: the law's own draw of numbers. -/
namespace FW
open PySem PySem.Spec L2
open PyProof.Rows hiding St
/-- what one draw gives: the number, the new count, the new numbers -/
def takeL (k : Int) (ns : List Int) (m : Int) : Option (Int × Int × List Int) :=
  if m < 2 then some (0, k, ns) else
    if 0 < ns.length then (ns[(k % (ns.length : Int)).toNat]?).bind fun cell =>
      if 1000000000000000000 ≤ cell then (if m < 2 ^ 200 then some (cell % m, k, ns.set (k % (ns.length : Int)).toNat (cell / m)) else none)
      else some ((((((cell * 48271 + (k + 1) * 69621) % 2147483647) * 16807 + (k + 1) * 7919) % 1000000007) / 7) % m, k + 1, ns)
    else none
def takeW : Addr → Int → List Int → List D → Rw := fun _ k ns ds => match ds with
  | [.int m] => match takeL k ns m with
    | some (r, k', ns') => .ok (.int r) k' ns'
    | none => .bad
  | _ => .bad
theorem takeW_int {a : Addr} {k : Int} {ns : List Int} {ds : List D} (h : takeW a k ns ds ≠ .bad) : ∃ m, ds = [.int m] := by
  unfold takeW at h
  split at h
  · exact ⟨_, rfl⟩
  · exact absurd rfl h
theorem takeL_lt {k m r k' : Int} {ns ns' : List Int} (h : takeL k ns m = some (r, k', ns')) (hm : 2 ≤ m) : 0 ≤ r ∧ r < m ∧ ns'.length = ns.length := by
  unfold takeL at h
  rw [if_neg (by omega)] at h
  split at h
  · obtain ⟨cell, _, h⟩ := Option.bind_eq_some_iff.mp h
    split at h
    · split at h
      · cases h
        exact ⟨Int.emod_nonneg _ (by omega), Int.emod_lt_of_pos _ (by omega), by simp⟩
      · cases h
    · cases h
      exact ⟨Int.emod_nonneg _ (by omega), Int.emod_lt_of_pos _ (by omega), rfl⟩
  · cases h
/-- the numbers may be drawn from -/
def DrawOk (ns : List Int) : Prop := 0 < ns.length
/-- each draw goes, and is below its bound -/
theorem takeL_ok (k : Int) {ns : List Int} {m : Int} (h : DrawOk ns) (hm : m < 2 ^ 200) : ∃ r k' ns', takeL k ns m = some (r, k', ns') ∧ DrawOk ns' ∧ 0 ≤ r ∧ (m < 2 → r = 0) ∧ (1 ≤ m → r < m) := by
  unfold takeL
  by_cases h2 : m < 2
  · exact ⟨0, k, ns, by rw [if_pos h2], h, Int.le_refl _, fun _ => rfl, fun h => by omega⟩
  · rw [if_neg h2, if_pos (show 0 < ns.length from h)]
    have hpos : (0 : Int) < ns.length := by
      have h0 : 0 < ns.length := h
      omega
    have hlt : (k % (ns.length : Int)).toNat < ns.length := by
      have a1 := Int.emod_nonneg k (show (ns.length : Int) ≠ 0 by omega)
      have a2 := Int.emod_lt_of_pos k hpos
      omega
    rw [List.getElem?_eq_getElem hlt]
    simp only [Option.bind_some]
    split
    · first
        | rw [if_pos hm]
        | skip
      exact ⟨_, _, _, rfl, by unfold DrawOk; rw [List.length_set]; exact h, Int.emod_nonneg _ (by omega), fun _ => by omega, fun _ => Int.emod_lt_of_pos _ (by omega)⟩
    · exact ⟨_, _, _, rfl, h, Int.emod_nonneg _ (by omega), fun _ => by omega, fun _ => Int.emod_lt_of_pos _ (by omega)⟩
section
variable {K : PySem.W.Frag} {mg : Str → Option Value} {base : Heap}
theorem take_set0 {Z H : Hp} {a b : Addr} {k k' : Int} {ns : List Int} (h : Holds K [.drw a k ns] [some (.ref a)] ⟨Z, H, [a, b]⟩) (ha : H a = some (.lst [.int k, .ref b])) (hb : H b = some (.lst (ns.map V.int))) :
    Stp ⟨Z, H, [a, b]⟩ ⟨Z, upd H a (.lst [.int k', .ref b]), [a, b]⟩ ∧ Holds K [.drw a k' ns] [some (.ref a)] ⟨Z, upd H a (.lst [.int k', .ref b]), [a, b]⟩ := by
  have ne : b ≠ a := by
    have nd := h.nd
    simp only [List.nodup_cons, List.mem_singleton] at nd
    exact fun e => nd.1 e.symm
  refine ⟨⟨Same.refl _, fun c o q hn => ?_, fun c o q => ?_, fun c o q => .inl q, fun c m => .inl m⟩, ⟨?_, h.nd, h.zf, fun c o q => ?_⟩⟩
  · have hn' : c ≠ a := fun e => hn (by rw [e]; simp)
    exact (upd_ne hn').trans q
  · by_cases e : c = a
    · subst e
      exact ⟨_, upd_same⟩
    · exact ⟨o, (upd_ne e).trans q⟩
  · have q : HoldsL K ⟨Z, upd H a (.lst [.int k', .ref b]), [a, b]⟩ [.drw a k' ns] [some (.ref a)] ([a, b] ++ []) := .cons ⟨b, rfl, rfl, upd_same, (upd_ne ne).trans hb⟩ .nil
    exact q
  · have nc : c ≠ a := fun e => by
      subst e
      have q' : Z c = some o := q
      have z := h.zf c (by simp)
      have z' : Z c = none := z
      rw [z'] at q'
      cases q'
    exact (upd_ne nc).trans (h.zh c o q)
theorem take_set1 {Z H : Hp} {a b : Addr} {k : Int} {ns ns' : List Int} (h : Holds K [.drw a k ns] [some (.ref a)] ⟨Z, H, [a, b]⟩) (ha : H a = some (.lst [.int k, .ref b])) (hb : H b = some (.lst (ns.map V.int))) :
    Stp ⟨Z, H, [a, b]⟩ ⟨Z, upd H b (.lst (ns'.map V.int)), [a, b]⟩ ∧ Holds K [.drw a k ns'] [some (.ref a)] ⟨Z, upd H b (.lst (ns'.map V.int)), [a, b]⟩ := by
  have ne : a ≠ b := by
    have nd := h.nd
    simp only [List.nodup_cons, List.mem_singleton] at nd
    exact nd.1
  refine ⟨⟨Same.refl _, fun c o q hn => ?_, fun c o q => ?_, fun c o q => .inl q, fun c m => .inl m⟩, ⟨?_, h.nd, h.zf, fun c o q => ?_⟩⟩
  · have hn' : c ≠ b := fun e => hn (by rw [e]; simp)
    exact (upd_ne hn').trans q
  · by_cases e : c = b
    · subst e
      exact ⟨_, upd_same⟩
    · exact ⟨o, (upd_ne e).trans q⟩
  · have q : HoldsL K ⟨Z, upd H b (.lst (ns'.map V.int)), [a, b]⟩ [.drw a k ns'] [some (.ref a)] ([a, b] ++ []) := .cons ⟨b, rfl, rfl, (upd_ne ne).trans ha, upd_same⟩ .nil
    exact q
  · have nc : c ≠ b := fun e => by
      subst e
      have q' : Z c = some o := q
      have z := h.zf c (by simp)
      have z' : Z c = none := z
      rw [z'] at q'
      cases q'
    exact (upd_ne nc).trans (h.zh c o q)
/-- what the first statement of a law leaves -/
def spSt (K : PySem.W.Frag) : Sp := fun vs H Q _ => ∃ (s : Addr) (ns : List Int), vs = [.ref s] ∧ SqL K H s (ns.map V.int) ∧ ns.length ≤ 63 ∧
  ∀ H' a b, Same H H' → H a = none → H b = none → a ≠ b → ∀ ms : List Int, DrawOk ms → H' a = some (.lst [.int 0, .ref b]) → H' b = some (.lst (ms.map V.int)) → Q (.ref a) H'
def spLaw (K : PySem.W.Frag) : Sp := fun vs H Q _ => ∃ (a : Addr) (ns : List Int), vs = [.ref a] ∧ SqL K H a (ns.map V.int) ∧ ns.length ≤ 63 ∧ ∀ H', Q (.bl true) H'
end
end FW

/-! FwL: dicts: made, asked, walked. -/
namespace FW
open PySem PySem.Spec L2
open PyProof.Rows hiding St
section
variable {X : Cx} {W : WX} {pos : Pos}
/-! ### fresh dicts -/
def tM (G : Gx) (t : Bool) (f : EM (List (D × D))) : TE := fun σ H Q => ∃ S Z F, Holds G.K S σ ⟨Z, H, F⟩ ∧ Go G σ ⟨Z, H, F⟩ (f S) (fun es _ c' => ∀ p u, c'.H p = none → DicAt G.K c'.Z (some u) t es → Q (.ref p) (upd c'.H p u))
def DM (X : Cx) (W : WX) (t : Bool) (e : Expr) (f : EM (List (D × D))) : Prop := PE X e (tM (gx X W) t f)
def sDic (i : Nat) (t : Bool) (f : EM (List (D × D))) : SM := sOf f fun es S => if i < S.length then .nx (S.set i (.dic t es)) else .bad
theorem ds_dic (i : Nat) {t : Bool} {x : Str} {e : Expr} {f : EM (List (D × D))} {pos' : Pos} (hN : X.N.Nodup) (he : DM X W t e f) (hi : X.N[i]? = some x := by rfl) (hx : Loc X.env.scope x := by first | exact Or.inl rfl | exact Or.inr rfl) (hs : swapsWith e (some (.Name x pos')) pos.line X.env = pure false := by rfl)
    (hf : X.fn x = true ∨ X.env.scope.names.lookup x = some .local := by first | exact .inl rfl | exact .inr rfl | assumption) : DS X W (.Assign [.Name x pos'] e pos) (sDic i t f) := by
  refine PS.wk (ps_set hN hi hx he hs hf) fun Q σ H q => ?_
  obtain ⟨S, Z, F, h, q⟩ := q
  refine ⟨S, Z, F, h, Go.toS q fun es S1 c1 s1 h1 q1 p u hp da => ?_⟩
  split at q1
  · rename_i hl
    obtain ⟨F', st, h'⟩ := h1.setU (u := u) (sl := .dic t es) hl hp fun F' => ⟨p, rfl, rfl, by
      show DicAt X.K c1.Z (upd c1.H p u p) t es
      rw [upd_same]
      exact da⟩
    exact q1 _ ⟨c1.Z, upd c1.H p u, F'⟩ st h'
  · exact q1.elim
/-- .. frozen at once -/
def eFzM (t : Bool) (f : EM (List (D × D))) : EM D := eBind f fun es => eRet (dictD t es)
theorem de_m {t : Bool} {e : Expr} {f : EM (List (D × D))} (he : DM X W t e f) : DE X W e (eFzM t f) := by
  refine PE.wk (pe_frz he) fun σ H Q q => ?_
  obtain ⟨S, Z, F, h, q⟩ := q
  refine ⟨S, Z, F, h, (Go.bind q).mono fun es S1 c1 s1 h1 q1 p u hp da => .inr ⟨p, u, upd_same, ?_, fun od => ?_⟩⟩
  · obtain ⟨u', e1, mu, _⟩ := da.obj
    cases e1
    exact mu
  · obtain ⟨s2, h2⟩ := h1.lay (o := .frz od u) hp
    have q2 := q1 (c1.lay p (.frz od u)) s2 h2 (.ref p) ((da.mono s2.z).lockR upd_same)
    have e : upd (upd c1.H p u) p (.frz od u) = upd c1.H p (.frz od u) := by
      funext b
      by_cases hb : b = p
      · subst hb
        rw [upd_same, upd_same]
      · rw [upd_ne hb, upd_ne hb, upd_ne hb]
    rw [e]
    exact q2
theorem DicAt.empty {K : PySem.W.Frag} {Z : Hp} : ∀ t : Bool, ∃ u, DicAt K Z (some u) t [] ∧ ((t = false ∧ u = .dK []) ∨ (t = true ∧ u = .dT []))
  | false => ⟨.dK [], ⟨[], [], [], rfl, rfl, .nil, rfl⟩, .inl ⟨rfl, rfl⟩⟩
  | true => ⟨.dT [], ⟨[], [], [], rfl, rfl, .nil, rfl⟩, .inr ⟨rfl, rfl⟩⟩
theorem DicAt.nilK {K : PySem.W.Frag} {Z : Hp} {u : HO} (h : DicAt K Z (some u) false []) : u = .dK [] := by
  obtain ⟨ks, vs, ds, h1, h2, h3, h4⟩ := h
  cases h1
  have l : ks.length = 0 := by
    have := congrArg List.length h4
    simp [h2] at this
    omega
  cases ks with
  | nil => rfl
  | cons _ _ => simp at l
theorem DicAt.nilT {K : PySem.W.Frag} {Z : Hp} {u : HO} (h : DicAt K Z (some u) true []) : u = .dT [] := by
  obtain ⟨ks, vs, ds, h1, h2, h3, h4⟩ := h
  cases h1
  have l : ks.length = 0 := by
    have := congrArg List.length h4
    simp [h2] at this
    omega
  cases ks with
  | nil => rfl
  | cons _ _ => simp at l
theorem dm_nilK : DM X W false (.Dict [] [] pos) (eRet []) := by
  refine PE.wk pe_dnewK fun σ H Q q p hp => ?_
  obtain ⟨S, Z, F, h, q⟩ := q
  exact q _ (Stp.refl _) h p (.dK []) hp ⟨[], [], [], rfl, rfl, .nil, rfl⟩
theorem dm_nilT : DM X W true (.Dict [] [] pos) (eRet []) := by
  refine PE.wk pe_dnewT fun σ H Q q p hp => ?_
  obtain ⟨S, Z, F, h, q⟩ := q
  exact q _ (Stp.refl _) h p (.dT []) hp ⟨[], [], [], rfl, rfl, .nil, rfl⟩
/-! ### displays -/
section
variable {pins : List (Addr × Obj)} {σ : L2.St} {H : Hp} {s : Shared} {a : Addr} {y v : V} {u r : Value} {A : Around} {E : Value → Shared → Prop}
theorem d_dictSet {H' : Hp} {Q : Unit → Shared → Prop} (hu : A.units + 1 < cLine) (I : Inv X pins σ H s) (g : DPut H a y v H') (ry : RelV y u) (rv : RelV v r) (h : ∀ s', Inv X pins σ H' s' → Q () s') :
    wpAny (model X.prog X.w) A (dictSet a u r) Q E s := by
  rcases g with ⟨kvs, k, e, ey, l, eH⟩ | ⟨kvs, k, b, e, ey, eb, l, eH⟩
  · subst ey eH
    obtain ⟨z, hd, vs, rel, dd⟩ := dk_of I.hok e
    have hz : vs.length ≤ sizeLine := by rw [← rel.length]; exact z
    have hl : (putK kvs k v).length ≤ sizeLine := by have := length_putK kvs k v; omega
    refine wpAny_dictSet_pairs (hsz := hz) (kV_is ry) dd fun h' dd' hs => h _ ?_
    have he : ∃ q, h'.get? a = some q := let ⟨q, _, _, hq, _⟩ := dd'; ⟨q, hq⟩
    exact d_write I (by rw [e]; exact True.intro) hs he (dk_new hl hd (rel.put k rv) dd')
  · subst ey eH
    cases (show u = Value.ref b from ry)
    obtain ⟨z, hd, xs, rel, dd⟩ := dt_of I.hok e
    have hz : xs.length ≤ sizeLine := by rw [← Paired.length rel]; exact z
    have hl : (putK kvs k v).length ≤ sizeLine := by have := length_putK kvs k v; omega
    refine wpAny_dictSet_heap (hsz := hz) (show A.units < cLine by omega) (key_of I.hok eb) dd fun h' dd' hs => h _ ?_
    obtain ⟨q, es, ep, hq, h2, h3, h4, _, h5⟩ := dd'
    refine d_write I (by rw [e]; exact True.intro) hs ⟨q, hq⟩ ⟨hl, hd, _, (rel.put k eb rv).keeps fun c ys ec => ?_, q, es, ep, hq, h2, h3, h4, h5⟩
    rw [upd_ne (ne_of ec e (fun z => nomatch z))]
    exact ec
end
/-- the pairs stored, one by one -/
def Puts (a : Addr) : List (V × V) → Hp → (Hp → Prop) → Prop
  | [], H, Q => Q H
  | (y, v) :: r, H, Q => ∃ H', DPut H a y v H' ∧ Puts a r H' Q
theorem puts_run {pins : List (Addr × Obj)} {σ : L2.St} {a : Addr} {A : Around} {E : Value → Shared → Prop} (hu : A.units + 1 < cLine) : ∀ {ps : List (V × V)} {vs : List (Value × Value)} {H : Hp} {s : Shared} {R : PUnit → Shared → Prop} {Q : Hp → Prop}, Inv X pins σ H s → VV ps vs → Puts a ps H Q →
    (∀ H' s', Inv X pins σ H' s' → Q H' → R PUnit.unit s') → wpAny (model X.prog X.w) A (storeAll a vs) R E s
  | [], _, H, s, R, Q, I, .nil, q, k => by
    unfold storeAll
    rw [List.forIn_nil]
    exact wpAny_pure (k H s I q)
  | (y, v) :: ps, _, H, s, R, Q, I, .cons (b := b) (l₂ := vs) r rs, q, k => by
    obtain ⟨H', g, q⟩ := q
    unfold storeAll
    rw [List.forIn_cons]
    exact wpAny_bind (wpAny_bind (d_dictSet hu I g r.1 r.2 fun s' I' => wpAny_pure (puts_run hu I' rs q k)))
def tDispG (t : Bool) (trs : List (TE × TE)) : TE := fun σ H Q => ∀ p o, H p = none → o = (if t then HO.dT [] else HO.dK []) → tPairs trs σ (upd H p o) fun ps H2 => Puts p ps H2 fun H3 => Q (.ref p) H3
theorem pe_dispG (t : Bool) {keys : List (Option Expr)} {values : List Expr} {trs : List (TE × TE)} (hu : X.A.units + 1 < cLine) (h : PPs X pos keys values trs) (hall : keys.all (·.isSome) = true) (hl : keys.length = values.length) (h0 : keys ≠ [])
    (h15 : keys.length ≤ 15) : PE X (.Dict keys values pos) (tDispG t trs) := by
  refine ⟨fun pins s σ H Q I q => ?_⟩
  have hn := I.hok.fresh (Nat.le_refl s.heap.objs.size)
  refine wpAny_Dict_any hall hl h0 h15 ?_
  cases t with
  | false =>
    have I1 := I.laid (a := s.heap.objs.size) (o := .dK []) (h' := s.heap.push { cls := .type "dict", data := .dict #[] }) (t' := s.toks) (fun _ _ q => Heap.get?_push_of_some _ q) (Nat.le_refl _) (dk_empty s.heap I.big)
    refine thn (h.run pins _ σ _ _ I1 (q _ _ hn rfl)) fun ws s2 ⟨ps, H2, I2, rel, q2⟩ => ?_
    exact puts_run hu I2 rel q2 fun H' s' I' q' => ⟨.ref s.heap.objs.size, H', I', rfl, q'⟩
  | true =>
    have I1 := I.laid (a := s.heap.objs.size) (o := .dT []) (h' := s.heap.push { cls := .type "dict", data := .dict #[] }) (t' := s.toks) (fun _ _ q => Heap.get?_push_of_some _ q) (Nat.le_refl _) (dt_empty s.heap I.big)
    refine thn (h.run pins _ σ _ _ I1 (q _ _ hn rfl)) fun ws s2 ⟨ps, H2, I2, rel, q2⟩ => ?_
    exact puts_run hu I2 rel q2 fun H' s' I' q' => ⟨.ref s.heap.objs.size, H', I', rfl, q'⟩
/-- the pairs of a display -/
def ePairs : List (EM D × EM D) → EM (List (D × D))
  | [] => eRet []
  | (fk, fv) :: r => eBind fk fun k => eBind fv fun v => eBind (ePairs r) fun es => eRet ((k, v) :: es)
inductive DPr (X : Cx) (W : WX) (pos : Pos) : List (Option Expr) → List Expr → List (EM D × EM D) → Prop
  | nil : DPr X W pos [] [] []
  | cons {k v : Expr} {ks : List (Option Expr)} {vs : List Expr} {fk fv : EM D} {r : List (EM D × EM D)} : DE X W k fk → DE X W v fv → DPr X W pos ks vs r → DPr X W pos (some k :: ks) (v :: vs) ((fk, fv) :: r)
theorem DPr.pps {ks : List (Option Expr)} {vs : List Expr} {fs : List (EM D × EM D)} (h : DPr X W pos ks vs fs) : PPs X pos ks vs (fs.map fun p => (tD (gx X W) p.1, tD (gx X W) p.2)) := by
  induction h with
  | nil => exact pps_nil
  | cons h1 h2 _ ih => exact pps_cons h1 h2 ih
theorem DPr.all {ks : List (Option Expr)} {vs : List Expr} {fs : List (EM D × EM D)} (h : DPr X W pos ks vs fs) : ks.all (·.isSome) = true ∧ ks.length = vs.length ∧ ks.length = fs.length := by
  induction h with
  | nil => exact ⟨rfl, rfl, rfl⟩
  | cons _ _ _ ih => exact ⟨by simpa using ih.1, by simp [ih.2.1], by simp [ih.2.2]⟩
inductive RpP (K : PySem.W.Frag) (Z : Hp) : List (V × V) → List (D × D) → Prop
  | nil : RpP K Z [] []
  | cons {y v : V} {k d : D} {ps : List (V × V)} {es : List (D × D)} : Rp K Z y k → Rp K Z v d → RpP K Z ps es → RpP K Z ((y, v) :: ps) ((k, d) :: es)
theorem pairs_rd {σ : Sg} {P : List (D × D) → List Slot → Cfg → Prop} : ∀ (fs : List (EM D × EM D)) {S : List Slot} {c : Cfg} {Q : List (V × V) → Hp → Prop}, Holds X.K S σ c → Go (gx X W) σ c (ePairs fs S) P →
    (∀ es S' c' ps, Stp c c' → Holds X.K S' σ c' → RpP X.K c'.Z ps es → P es S' c' → Q ps c'.H) → tPairs (fs.map fun p => (tD (gx X W) p.1, tD (gx X W) p.2)) σ c.H Q
  | [], S, c, Q, h, q, k => k [] S c [] (Stp.refl _) h .nil (q c (Stp.refl _) h)
  | (fk, fv) :: fs, S, c, Q, h, q, k => by
    refine ⟨S, c.Z, c.F, h, (Go.bind q).mono fun kk S1 c1 s1 h1 q1 x rx => ?_⟩
    refine ⟨S1, c1.Z, c1.F, h1, (Go.bind q1).mono fun vv S2 c2 s2 h2 q2 y ry => ?_⟩
    refine pairs_rd fs (P := fun es S' c' => P ((kk, vv) :: es) S' c') h2 ((Go.bind q2).mono fun es S3 c3 s3 h3 q3 => q3 c3 (Stp.refl _) h3) fun es S3 c3 ps s3 h3 rp q3 => ?_
    exact k ((kk, vv) :: es) S3 c3 ((x, y) :: ps) (s1.trans (s2.trans s3)) h3 (.cons ((rx.mono s2.z).mono s3.z) (ry.mono s3.z) rp) q3
def esPuts (t : Bool) : List (D × D) → List (D × D) → Option (List (D × D))
  | es, [] => some es
  | es, (k, v) :: r => if isKey t k then esPuts t (esPut es k v) r else none
theorem esPut_len (es : List (D × D)) (k v : D) : (esPut es k v).length ≤ es.length + 1 := by
  unfold esPut
  split <;> simp
theorem puts_rd {K : PySem.W.Frag} {c : Cfg} {p : Addr} {t : Bool} (zh : Same c.Z c.H) (zp : c.Z p = none) : ∀ {ps : List (V × V)} {es acc out : List (D × D)} {u : HO} {Q : Hp → Prop}, RpP K c.Z ps es → esPuts t acc es = some out → acc.length + es.length < sizeLine → DicAt K c.Z (some u) t acc →
    (∀ u', DicAt K c.Z (some u') t out → Q (upd c.H p u')) → Puts p ps (upd c.H p u) Q
  | [], _, acc, out, u, Q, .nil, e, _, da, q => by
    cases e
    exact q u da
  | (y, v) :: ps, _, acc, out, u, Q, .cons (k := k) (d := d) (es := es) rk rv r, e, hl, da, q => by
    unfold esPuts at e
    split at e
    · rename_i hk
      rw [List.length_cons] at hl
      have sm : Same c.Z (upd c.H p u) := fun b o e => by
        have ne : b ≠ p := by
          rintro rfl
          rw [zp] at e
          cases e
        rw [upd_ne ne]
        exact zh b o e
      obtain ⟨u', g, da'⟩ := DicAt.put (H := upd c.H p u) (a := p) sm (by rw [upd_same]; exact da) hk rk rv (by omega)
      have e2 : upd (upd c.H p u) p u' = upd c.H p u' := by
        funext b
        by_cases hb : b = p
        · subst hb
          rw [upd_same, upd_same]
        · rw [upd_ne hb, upd_ne hb, upd_ne hb]
      rw [e2] at g
      have := esPut_len acc k d
      exact ⟨_, g, puts_rd zh zp r e (by omega) da' q⟩
    · cases e
def eDisp (t : Bool) (fs : List (EM D × EM D)) : EM (List (D × D)) := eBind (ePairs fs) fun es => if es.length ≤ 15 then eOpt (esPuts t [] es) else fun _ => .bad
theorem Cfg.del_ok {K : PySem.W.Frag} {S : List Slot} {σ : Sg} {c c' : Cfg} {p : Addr} {o : HO} (hp : c.H p = none) (s : Stp (c.tmp p o) c') (h : Holds K S σ c') (zp : c'.Z p = none) (pF : p ∉ c'.F) :
    Stp c ⟨c'.Z, fun b => if b = p then none else c'.H b, c'.F⟩ ∧ Holds K S σ ⟨c'.Z, fun b => if b = p then none else c'.H b, c'.F⟩ := by
  have hne : ∀ b, b ≠ p → (fun b => if b = p then none else c'.H b : Hp) b = c'.H b := fun b hb => if_neg hb
  have nb : ∀ {b x}, c.H b = some x → b ≠ p := fun {b x} e => by
    rintro rfl
    rw [hp] at e
    cases e
  have old : ∀ {b x}, c.H b = some x → (c.tmp p o).H b = some x := fun {b x} e => (upd_ne (nb e)).trans e
  refine ⟨⟨s.z, fun b x e hn => (hne b (nb e)).trans (s.k b x (old e) hn), fun b x e => ?_, fun b x e => ?_, fun b m => ?_⟩, ⟨?_, h.nd, h.zf, fun b x e => ?_⟩⟩
  · obtain ⟨x', e'⟩ := s.t b x (old e)
    exact ⟨x', (hne b (nb e)).trans e'⟩
  · have bp : b ≠ p := by
      rintro rfl
      have e' : c'.Z b = some x := e
      rw [zp] at e'
      cases e'
    have back : (c.tmp p o).H b = c.H b := upd_ne bp
    rcases s.n b x e with z | z | z | ⟨xs, z⟩
    · exact .inl z
    · exact .inr (.inl (back ▸ z))
    · exact .inr (.inr (.inl z))
    · exact .inr (.inr (.inr ⟨xs, back ▸ z⟩))
  · have bp : b ≠ p := by
      rintro rfl
      exact pF m
    have back : (c.tmp p o).H b = c.H b := upd_ne bp
    rcases s.f b m with z | z
    · exact .inl z
    · exact .inr (back ▸ z)
  · exact HoldsL.tr (c := c') (c' := ⟨c'.Z, fun b => if b = p then none else c'.H b, c'.F⟩) (Same.refl c'.Z) h.l fun a ha => hne a fun z => pF (z ▸ ha)
  · have bp : b ≠ p := by
      rintro rfl
      have e' : c'.Z b = some x := e
      rw [zp] at e'
      cases e'
    exact (hne b bp).trans (h.zh b x e)
theorem dm_disp {t : Bool} {ks : List (Option Expr)} {vs : List Expr} {fs : List (EM D × EM D)} (hu : X.A.units + 64 < cLine) (h : DPr X W pos ks vs fs) (h0 : ks ≠ [] := by decide) (h15 : ks.length ≤ 15 := by decide) : DM X W t (.Dict ks vs pos) (eDisp t fs) := by
  obtain ⟨a1, a2, a3⟩ := h.all
  refine PE.wk (pe_dispG t (by omega) h.pps a1 a2 h0 h15) fun σ H Q q p o hp ho => ?_
  obtain ⟨S, Z, F, hh, q⟩ := q
  obtain ⟨st, h1⟩ := hh.tmpS (o := o) hp
  have q0 := Go.bind q
  cases er : ePairs fs S with
  | bad => rw [er] at q0; exact q0.elim
  | ex x S1 =>
    rw [er] at q0
    exact pairs_rd fs (c := (⟨Z, H, F⟩ : Cfg).tmp p o) (P := fun _ _ _ => False) h1 (by rw [er]; exact fun c' cls dx s hh x => q0 c' cls dx (st.trans s) hh x) fun es S2 c2 ps s2 h2 rp q2 => q2.elim
  | ok es S1 =>
  rw [er] at q0
  refine pairs_rd fs (c := (⟨Z, H, F⟩ : Cfg).tmp p o) (P := fun es' S' _ => es' = es ∧ S' = S1) h1 (by rw [er]; exact fun c' _ _ => ⟨rfl, rfl⟩) fun es' S2 c2 ps s2 h2 rp ⟨ee, eS⟩ => ?_
  subst ee eS
  have hF0 : p ∉ ((⟨Z, H, F⟩ : Cfg).tmp p o).F := hh.nF hp
  have e2 : c2.H p = some o := s2.k p o upd_same hF0
  have z2 : c2.Z p = none := by
    cases e : c2.Z p with
    | none => rfl
    | some x =>
      rcases s2.n p x e with z | z | z | ⟨xs, z⟩
      · have z' : Z p = some x := z
        rw [show Z p = none from hh.nf hp] at z'
        cases z'
      · have z' : upd H p o p = none := z
        rw [upd_same] at z'
        cases z'
      · exact absurd z hF0
      · have z' : upd H p o p = some (.tup xs) := z
        rw [upd_same] at z'
        cases t <;> simp at ho <;> subst ho <;> cases z'
  have f2 : p ∉ c2.F := fun m => by
    rcases s2.f p m with z | z
    · exact hF0 z
    · have z' : upd H p o p = none := z
      rw [upd_same] at z'
      cases z'
  obtain ⟨st3, h3⟩ := Cfg.del_ok (c := ⟨Z, H, F⟩) hp s2 h2 z2 f2
  have dd : DicAt X.K c2.Z (some o) t [] := by
    cases t with
    | false => subst ho; exact ⟨[], [], [], rfl, rfl, .nil, rfl⟩
    | true => subst ho; exact ⟨[], [], [], rfl, rfl, .nil, rfl⟩
  have eq : upd c2.H p o = c2.H := by
    funext b
    by_cases hb : b = p
    · subst hb
      rw [upd_same, e2]
    · rw [upd_ne hb]
  have q3 := q0 _ st3 h3
  have q4 : Go (gx X W) σ ⟨c2.Z, fun b => if b = p then none else c2.H b, c2.F⟩ ((if es'.length ≤ 15 then eOpt (esPuts t [] es') else fun _ => .bad) S2) (fun es _ c' => ∀ p u, c'.H p = none → DicAt X.K c'.Z (some u) t es → Q (.ref p) (upd c'.H p u)) := q3
  split at q4
  rotate_left
  · exact q4.elim
  rename_i hl
  obtain ⟨out, e1, k⟩ := Go.opt q4
  have h16 : (15 : Nat) < sizeLine := by decide
  have g := puts_rd (K := X.K) (c := c2) (p := p) (t := t) h2.zh z2 (acc := []) (u := o) (Q := fun H3 => Q (.ref p) H3) rp e1 (by rw [List.length_nil]; omega) dd fun u' da => by
    have q5 := k _ (Stp.refl _) h3 p u' (if_pos rfl) da
    have eq3 : upd (fun b => if b = p then none else c2.H b) p u' = upd c2.H p u' := by
      funext b
      by_cases hb : b = p
      · subst hb
        rw [upd_same, upd_same]
      · rw [upd_ne hb, upd_ne hb]
        exact if_neg hb
    rw [← eq3]
    exact q5
  rw [eq] at g
  exact g
/-! ### d.get(k, x), d.get(k) -/
def getDic (d k : D) : Option (Option D) := (dicOf d).bind fun te => if isKey te.1 k then some (esGet te.2 k) else none
def eGet2 (fo fk fx : EM D) : EM D := eBind fo fun d => eBind fk fun k => eBind fx fun x => eOpt ((getDic d k).map fun o => o.getD x)
def eGet1 (fo fk : EM D) : EM D := eBind fo fun d => eBind fk fun k => eOpt ((getDic d k).map fun o => o.getD .none)
theorem getDic_lo {c : Cfg} {x y : V} {d k : D} {o : Option D} (sm : Same c.Z c.H) (e : getDic d k = some o) (rb : Lo X.K c x d) (ra : Rp X.K c.Z y k) : ∃ p o', x = .ref p ∧ IsD c.H p ∧ DGet c.H p y o' ∧ RpO X.K c.Z o' o := by
  obtain ⟨⟨t, es⟩, e1, e2⟩ := Option.bind_eq_some_iff.mp e
  dsimp only at e2
  split at e2
  · rename_i hk
    cases e2
    obtain ⟨p, u, rfl, hr, da⟩ := rb.dicI sm e1
    obtain ⟨o, g, ro⟩ := da.get sm hr hk ra
    refine ⟨p, o, rfl, ?_, g, ro⟩
    rcases da.len with ⟨kvs, h1, _⟩ | ⟨kvs, h1, _⟩
    · cases h1; exact .inl ⟨kvs, hr⟩
    · cases h1; exact .inr ⟨kvs, hr⟩
  · cases e2
/-- a dict as it lies -/
theorem Lo.isD {c : Cfg} {x : V} {d : D} (sm : Same c.Z c.H) (h : Lo X.K c x d) (e : (dicOf d).isSome = true) : ∃ p, x = .ref p ∧ IsD c.H p := by
  obtain ⟨⟨t, es⟩, e1⟩ := Option.isSome_iff_exists.mp e
  obtain ⟨p, u, rfl, hr, da⟩ := h.dicI sm e1
  refine ⟨p, rfl, ?_⟩
  rcases da.len with ⟨kvs, h1, _⟩ | ⟨kvs, h1, _⟩
  · cases h1; exact .inl ⟨kvs, hr⟩
  · cases h1; exact .inr ⟨kvs, hr⟩
variable {e k v : Expr} {apos : Pos} {fo fk fx : EM D}
/-- the receiver must be a dict before the arguments are looked at -/
def eDic (f : EM D) : EM D := eBind f fun d => if (dicOf d).isSome then eRet d else fun _ => .bad
theorem de_get2 (hu : X.A.units + 64 < cLine) (ho : DE X W e fo) (hk : DE X W k fk) (hv : DE X W v fx) (m : M2 X e "get" apos k v pos := by exact ⟨rfl, rfl, rfl, rfl⟩) :
    DE X W (.Call (.Attribute e "get" apos) [k, v] [] pos) (eGet2 (eDic fo) fk fx) := by
  refine PE.wk (pe_dget2 (by omega) ho hk hv m) fun σ H Q q => ?_
  obtain ⟨S, Z, F, h, q⟩ := q
  have q' := (Go.bind q)
  unfold eDic at q'
  refine ⟨S, Z, F, h, (Go.bind q').mono fun d S1 c1 s1 h1 q1 x rx => ?_⟩
  split at q1
  · rename_i hd
    have q1' := q1 c1 (Stp.refl _) h1
    obtain ⟨p, rfl, isd⟩ := Lo.isD h1.zh (.z rx) hd
    refine ⟨p, rfl, isd, S1, c1.Z, c1.F, h1, (Go.bind q1').mono fun kk S2 c2 s2 h2 q2 y ry => ?_⟩
    refine ⟨S2, c2.Z, c2.F, h2, (Go.bind q2).mono fun xx S3 c3 s3 h3 q3 z rz => ?_⟩
    obtain ⟨r, e1, k⟩ := Go.opt q3
    obtain ⟨o, e2, e3⟩ := Option.map_eq_some_iff.mp e1
    subst e3
    obtain ⟨p', o', ep, _, g, ro⟩ := getDic_lo h3.zh e2 (.z ((rx.mono s2.z).mono s3.z)) (ry.mono s3.z)
    cases ep
    exact ⟨o', g, k c3 (Stp.refl _) h3 _ (ro.getD rz)⟩
  · exact q1.elim
theorem de_get1 (hu : X.A.units + 64 < cLine) (ho : DE X W e fo) (hk : DE X W k fk) (m : M1 X e "get" apos k pos := by exact ⟨rfl, rfl, rfl, rfl⟩) :
    DE X W (.Call (.Attribute e "get" apos) [k] [] pos) (eGet1 (eDic fo) fk) := by
  refine PE.wk (pe_dget1 (by omega) ho hk m) fun σ H Q q => ?_
  obtain ⟨S, Z, F, h, q⟩ := q
  have q' := (Go.bind q)
  unfold eDic at q'
  refine ⟨S, Z, F, h, (Go.bind q').mono fun d S1 c1 s1 h1 q1 x rx => ?_⟩
  split at q1
  · rename_i hd
    have q1' := q1 c1 (Stp.refl _) h1
    obtain ⟨p, rfl, isd⟩ := Lo.isD h1.zh (.z rx) hd
    refine ⟨p, rfl, isd, S1, c1.Z, c1.F, h1, (Go.bind q1').mono fun kk S2 c2 s2 h2 q2 y ry => ?_⟩
    obtain ⟨r, e1, k⟩ := Go.opt q2
    obtain ⟨o, e2, e3⟩ := Option.map_eq_some_iff.mp e1
    subst e3
    obtain ⟨p', o', ep, _, g, ro⟩ := getDic_lo h2.zh e2 (.z (rx.mono s2.z)) ry
    cases ep
    exact ⟨o', g, k c2 (Stp.refl _) h2 _ (ro.getD .non)⟩
  · exact q1.elim
/-- .. of a dict in a slot of its own -/
def slotDic (S : List Slot) (i : Nat) : Option D := (slotAt S i).bind fun d => if (dicOf d).isSome then some d else none
def eGet2O (i : Nat) (fk fx : EM D) : EM D := fun S0 => match slotDic S0 i with
  | some _ => eBind fk (fun k => eBind fx fun x S => match slotAt S i with
    | some d => eOpt ((getDic d k).map fun o => o.getD x) S
    | none => .bad) S0
  | _ => .bad
def eGet1O (i : Nat) (fk : EM D) : EM D := fun S0 => match slotDic S0 i with
  | some _ => eBind fk (fun k S => match slotAt S i with
    | some d => eOpt ((getDic d k).map fun o => o.getD .none) S
    | none => .bad) S0
  | _ => .bad
variable {x : Str} {p : Pos}
theorem de_get2O (hu : X.A.units + 64 < cLine) (i : Nat) (hk : DE X W k fk) (hv : DE X W v fx) (hN : X.N[i]? = some x := by rfl) (hvis : Vis X.env.scope x := by first | exact Or.inl rfl | exact Or.inr (Or.inl rfl) | exact Or.inr (Or.inr rfl)) (hd : (x == ("__debug__" : Str)) = false := by decide) (hcd : (x == ("__classdict__" : Str)) = false := by decide)
    (m : M2 X (.Name x p) "get" apos k v pos := by exact ⟨rfl, rfl, rfl, rfl⟩) : DE X W (.Call (.Attribute (.Name x p) "get" apos) [k, v] [] pos) (eGet2O i fk fx) := by
  refine PE.wk (pe_dget2 (by omega) (pe_var hN hvis hd hcd) hk hv m) fun σ H Q q => ?_
  obtain ⟨S, Z, F, h, q⟩ := q
  unfold eGet2O at q
  split at q
  rotate_left
  · exact q.elim
  rename_i d0 e0
  obtain ⟨d1, e0a, e0b⟩ := Option.bind_eq_some_iff.mp e0
  split at e0b
  rotate_left
  · cases e0b
  rename_i hdd
  obtain ⟨p0, e2, r0⟩ := h.loAt e0a
  obtain ⟨p1, ep, isd⟩ := r0.isD h.zh hdd
  cases ep
  refine ⟨.ref p0, e2, p0, rfl, isd, S, Z, F, h, (Go.bind q).mono fun kk S1 c1 s1 h1 q1 y ry => ?_⟩
  refine ⟨S1, c1.Z, c1.F, h1, (Go.bind q1).mono fun xx S2 c2 s2 h2 q2 z rz => ?_⟩
  split at q2
  · rename_i d e3
    obtain ⟨p3, e4, r3⟩ := h2.loAt e3
    rw [e2] at e4
    cases e4
    obtain ⟨r, e5, k⟩ := Go.opt q2
    obtain ⟨o, e6, e7⟩ := Option.map_eq_some_iff.mp e5
    subst e7
    obtain ⟨p', o', ep, _, g, ro⟩ := getDic_lo h2.zh e6 r3 (ry.mono s2.z)
    cases ep
    exact ⟨o', g, k c2 (Stp.refl _) h2 _ (ro.getD rz)⟩
  · exact q2.elim
theorem de_get1O (hu : X.A.units + 64 < cLine) (i : Nat) (hk : DE X W k fk) (hN : X.N[i]? = some x := by rfl) (hvis : Vis X.env.scope x := by first | exact Or.inl rfl | exact Or.inr (Or.inl rfl) | exact Or.inr (Or.inr rfl)) (hd : (x == ("__debug__" : Str)) = false := by decide) (hcd : (x == ("__classdict__" : Str)) = false := by decide)
    (m : M1 X (.Name x p) "get" apos k pos := by exact ⟨rfl, rfl, rfl, rfl⟩) : DE X W (.Call (.Attribute (.Name x p) "get" apos) [k] [] pos) (eGet1O i fk) := by
  refine PE.wk (pe_dget1 (by omega) (pe_var hN hvis hd hcd) hk m) fun σ H Q q => ?_
  obtain ⟨S, Z, F, h, q⟩ := q
  unfold eGet1O at q
  split at q
  rotate_left
  · exact q.elim
  rename_i d0 e0
  obtain ⟨d1, e0a, e0b⟩ := Option.bind_eq_some_iff.mp e0
  split at e0b
  rotate_left
  · cases e0b
  rename_i hdd
  obtain ⟨p0, e2, r0⟩ := h.loAt e0a
  obtain ⟨p1, ep, isd⟩ := r0.isD h.zh hdd
  cases ep
  refine ⟨.ref p0, e2, p0, rfl, isd, S, Z, F, h, (Go.bind q).mono fun kk S1 c1 s1 h1 q1 y ry => ?_⟩
  split at q1
  · rename_i d e3
    obtain ⟨p3, e4, r3⟩ := h1.loAt e3
    rw [e2] at e4
    cases e4
    obtain ⟨r, e5, k⟩ := Go.opt q1
    obtain ⟨o, e6, e7⟩ := Option.map_eq_some_iff.mp e5
    subst e7
    obtain ⟨p', o', ep, _, g, ro⟩ := getDic_lo h1.zh e6 r3 ry
    cases ep
    exact ⟨o', g, k c1 (Stp.refl _) h1 _ (ro.getD .non)⟩
  · exact q1.elim
/-! ### dicts walked -/
/-- a tuple that stands there is known -/
theorem Holds.know {K : PySem.W.Frag} {S : List Slot} {σ : Sg} {c : Cfg} {b : Addr} {xs : List V} (h : Holds K S σ c) (e : c.H b = some (.tup xs)) : ∃ Z', Z' b = some (.tup xs) ∧ Stp c ⟨Z', c.H, c.F⟩ ∧ Holds K S σ ⟨Z', c.H, c.F⟩ := by
  cases ez : c.Z b with
  | some o =>
    have e2 := h.zh b o ez
    rw [e] at e2
    cases e2
    exact ⟨c.Z, ez, Stp.refl _, h⟩
  | none =>
    have bF : b ∉ c.F := fun m => by
      obtain ⟨o, e1, e2⟩ := h.l.own b m
      rw [e] at e1
      cases e1
      exact e2 _ rfl
    have sm : Same c.Z (upd c.Z b (.tup xs)) := same_upd ez
    refine ⟨upd c.Z b (.tup xs), upd_same, ⟨sm, fun _ _ q _ => q, fun _ o q => ⟨o, q⟩, fun b' o q => ?_, fun _ m => .inl m⟩, ⟨h.l.tr (c' := ⟨upd c.Z b (.tup xs), c.H, c.F⟩) sm fun _ _ => rfl, h.nd, fun a m => ?_, fun b' o q => ?_⟩⟩
    · by_cases hb : b' = b
      · subst hb
        exact .inr (.inr (.inr ⟨xs, e⟩))
      · have q' : upd c.Z b (.tup xs) b' = some o := q
        rw [upd_ne hb] at q'
        exact .inl q'
    · show upd c.Z b (.tup xs) a = none
      rw [upd_ne (show a ≠ b from fun z => bF (z ▸ m))]
      exact h.zf a m
    · have q' : upd c.Z b (.tup xs) b' = some o := q
      by_cases hb : b' = b
      · subst hb
        rw [upd_same] at q'
        cases q'
        exact e
      · rw [upd_ne hb] at q'
        exact h.zh b' o q'
theorem zip_get {α β : Type} {as : List α} {bs : List β} {i : Nat} {a : α} {b : β} (h : (as.zip bs)[i]? = some (a, b)) : as[i]? = some a := by
  rw [List.getElem?_zip_eq_some] at h
  exact h.1
theorem ItOk.dk {K : PySem.W.Frag} {Z0 : Hp} {a : Addr} {o : Obj} {ks : List Key} {vs : List V} (ha : Z0 a = some (.frz o (.dK (ks.zip vs)))) (hl : ks.length = vs.length) : ItOk K Z0 (Itk a o (ks.zip vs)) (ks.map kD) where
  go := fun i c S σ hi sm h => by
    rw [List.length_map] at hi
    refine ⟨⟨h.zh _ _ (sm _ _ ha), by simp; omega⟩, fun x H' y => ?_⟩
    obtain ⟨e1, k, v, e2, e3⟩ := y
    subst e1 e3
    have e4 := zip_get e2
    refine ⟨c, kD k, rfl, by rw [List.getElem?_map, e4]; rfl, Stp.refl _, h, ?_⟩
    cases k with
    | inl i => exact .int i
    | inr x => exact .str x
  stop := fun i c S σ hi sm h => ⟨h.zh _ _ (sm _ _ ha), by rw [List.length_map] at hi; simp; omega⟩
theorem ItOk.dt {K : PySem.W.Frag} {Z0 : Hp} {a : Addr} {o : Obj} {ks : List (List Key)} {vs : List V} (ha : Z0 a = some (.frz o (.dT (ks.zip vs)))) (hl : ks.length = vs.length) : ItOk K Z0 (Itkt a o (ks.zip vs)) (ks.map kTD) where
  go := fun i c S σ hi sm h => by
    rw [List.length_map] at hi
    refine ⟨⟨h.zh _ _ (sm _ _ ha), by simp; omega⟩, fun x H' y => ?_⟩
    obtain ⟨e1, k, v, q, e2, e3, e5⟩ := y
    subst e1 e3
    have e4 := zip_get e2
    obtain ⟨Z', z1, st, h'⟩ := h.know e5
    exact ⟨⟨Z', c.H, c.F⟩, kTD k, rfl, by rw [List.getElem?_map, e4]; rfl, st, h', .tup z1 (RpA.ofKey k)⟩
  stop := fun i c S σ hi sm h => ⟨h.zh _ _ (sm _ _ ha), by rw [List.length_map] at hi; simp; omega⟩
def walkK : D → Option (List D)
  | .dict es => (dicOf (.dict es)).map fun te => te.2.map (·.1)
  | _ => none
def iK (f : EM D) : EM (List D) := eBind f fun d => eOpt (walkK d)
theorem di_keys {tg : Expr} (he : DE X W e fo) : DI X W tg e (iK fo) := by
  refine PI.wk (pi_keys he) fun σ H R q => ?_
  obtain ⟨S, Z, F, h, q⟩ := q
  refine ⟨S, Z, F, h, (Go.bind q).mono fun d S1 c1 s1 h1 q1 x rx => ?_⟩
  obtain ⟨ds, e, k⟩ := Go.opt q1
  cases rx with
  | @dk a o ks vs es r1 r2 r3 =>
    have e' : (dicOf (PyData.dict _)).map (fun te => te.2.map (·.1)) = some ds := e
    rw [dicOf_false] at e'
    have l := r3.length
    have ek : List.map (fun x => x.fst) ((List.map kD ks).zip es) = List.map kD ks := List.map_fst_zip (by rw [List.length_map]; omega)
    have e2 : ds = List.map kD ks := by
      rw [← ek]
      exact (Option.some.inj e').symm
    subst e2
    exact ⟨_, _, rfl, .inl ⟨_, h1.zh _ _ r1, k c1 (Stp.refl _) h1 _ (ItOk.dk r1 (by omega))⟩⟩
  | @dt a o ks vs es r1 r2 r3 =>
    have l := r3.length
    have ek : List.map (fun x => x.fst) ((List.map kTD ks).zip es) = List.map kTD ks := List.map_fst_zip (by rw [List.length_map]; omega)
    have e2 : ds = List.map kTD ks := by
      rw [← ek]
      exact (Option.some.inj e).symm
    subst e2
    exact ⟨_, _, rfl, .inr ⟨_, h1.zh _ _ r1, k c1 (Stp.refl _) h1 _ (ItOk.dt r1 (by omega))⟩⟩
  | _ => cases e
/-- whatever is walked: lists, tuples, dicts by their keys -/
def walkA : D → Option (List D)
  | .list ds => some ds
  | .tuple ds => some ds
  | .dict es => walkK (.dict es)
  | _ => none
def iA (f : EM D) : EM (List D) := eBind f fun d => eOpt (walkA d)
theorem di_any {tg : Expr} (he : DE X W e fo) : DI X W tg e (iA fo) := by
  refine ⟨fun pins s σ H R I q => ?_⟩
  obtain ⟨S, Z, F, h, q⟩ := q
  unfold iA eBind at q
  cases ef : fo S with
  | bad => rw [ef] at q; exact q.elim
  | ex y S' =>
    rw [ef] at q
    refine (di_list he).run pins s σ H R I ⟨S, Z, F, h, ?_⟩
    unfold iL eBind
    rw [ef]
    exact q
  | ok d S' =>
    rw [ef] at q
    cases d with
    | list ds =>
      refine (di_list he).run pins s σ H R I ⟨S, Z, F, h, ?_⟩
      unfold iL eBind
      rw [ef]
      exact q
    | tuple ds =>
      refine (di_tup he).run pins s σ H R I ⟨S, Z, F, h, ?_⟩
      unfold iT eBind
      rw [ef]
      exact q
    | dict ds =>
      refine (di_keys he).run pins s σ H R I ⟨S, Z, F, h, ?_⟩
      unfold iK eBind
      rw [ef]
      exact q
    | _ => exact q.elim
end
end FW

/-! FwN: any and all of what is flat. -/
namespace FW
open PySem PySem.Spec L2
open PyProof.Rows hiding St
inductive TrV : V → Bool → Prop
  | bl (b : Bool) : TrV (.bl b) b
  | int (i : Int) : TrV (.int i) (i != 0)
inductive TrA : List V → List Bool → Prop
  | nil : TrA [] []
  | cons {v : V} {b : Bool} {vs : List V} {bs : List Bool} : TrV v b → TrA vs bs → TrA (v :: vs) (b :: bs)
theorem TrA.get : ∀ {vs : List V} {bs : List Bool} {i : Nat} {v : V}, TrA vs bs → vs[i]? = some v → ∃ b, bs[i]? = some b ∧ TrV v b
  | _, _, _, _, .nil, e => by simp at e
  | _, _, 0, _, .cons h _, e => by simp at e; subst e; exact ⟨_, rfl, h⟩
  | _, _, i + 1, _, .cons _ t, e => by
    obtain ⟨b, e1, e2⟩ := TrA.get t (by simpa using e)
    exact ⟨b, by simpa using e1, e2⟩
theorem TrA.length : ∀ {vs : List V} {bs : List Bool}, TrA vs bs → vs.length = bs.length
  | _, _, .nil => rfl
  | _, _, .cons _ t => by simp [TrA.length t]
theorem truth_flat {prog : Program} {w : World} {A : Around} {vs : List V} {bs : List Bool} {its : List Value} (r : Vals vs its) (t : TrA vs bs) :
    TruthOf prog w A (fun i v => its.toArray[i]? = some v) (fun i => bs.getD i false) := fun i v s Q E hv hq => by
  have hv' : its[i]? = some v := by simpa using hv
  have hl := r.length
  obtain ⟨hi, _⟩ := List.getElem?_eq_some_iff.mp hv'
  obtain ⟨u, hu, ru⟩ := r.get (i := i) (x := vs[i]'(by omega)) (List.getElem?_eq_getElem (by omega))
  rw [hv'] at hu
  cases hu
  obtain ⟨b, hb, tb⟩ := t.get (List.getElem?_eq_getElem (show i < vs.length by omega))
  have hg : bs.getD i false = b := by rw [List.getD_eq_getElem?_getD, hb] <;> rfl
  have hq' : Q (bs.getD i false) s := hq
  rw [hg] at hq'
  generalize vs[i]'(by omega) = x at ru tb
  cases tb with
  | bl b =>
    cases (show v = Value.bool b from ru)
    exact wpAny_truthy_bool hq'
  | int n =>
    obtain ⟨t, rfl⟩ := ru
    exact P.truthy_int hq'
def rAnyV (K : PySem.W.Frag) (al : Bool) : List V → Hp → VK → Prop := fun vs H Q => ∃ (a : Addr) (xs : List V) (bs : List Bool), vs = [V.ref a] ∧ (SqL K H a xs ∨ SqT K H a xs) ∧ TrA xs bs ∧ Q (.bl (if al then bs.all id else bs.any id)) H
section
variable {X : Cx} {W : WX}
theorem iter_anyT {prog : Program} {w : World} {A : Around} {E : Value → Shared → Prop} {s : Shared} {l : Addr} {items : Array Value} {Q : Value → Shared → Prop} (hl : s.heap.IsTuple l items)
    (h : ∀ s₂ : Shared, s₂ = { s with heap := s.heap.push { cls := .type "tuple_iterator", data := .fields #[.ref l, .int 0 0] } } →
      (s₂.heap.IsTupleIter s.heap.objs.size l 0 ∧ s₂.heap.IsTuple l items) → l ≠ s.heap.objs.size → Q (.ref s.heap.objs.size) s₂) : wpAny (model prog w) A (pyIter (.ref l)) Q E s := by
  have hlt : l < s.heap.objs.size := by obtain ⟨_, e, _⟩ := hl; exact Heap.lt_size e
  exact wpAny_pyIter_tuple hl (h _ rfl ⟨⟨_, Heap.get?_push_size _ rfl, rfl, rfl⟩, hl.push _⟩ (Nat.ne_of_lt hlt))
theorem cr_anyV (hc : X.calm = true) : CallR X (.builtin "any") (rAnyV X.K false) := by
  intro pins s σ H vs us Q I r h
  obtain ⟨a, xs, bs, rfl, hs, t, q⟩ := h
  rw [Vals.ref1 r]
  rcases hs with hs | hs
  · obtain ⟨its, rv, hl, _⟩ := I.list hs
    refine call_any_walk (iter_any hl.isList fun s₂ e2 st hne => ?_)
    subst e2
    refine ⟨_, _, _, _, _, _, _, rfl, Walks.list (A := X.A.in1) (I.ok.hd hc) _ a hne its.toArray, st, truth_flat rv t, fun h' tk hk => ?_⟩
    refine ⟨.bl _, H, I.kept fun b o eo => hk b o (fun hmem => ?_) (Heap.get?_push_of_some _ eo), ?_, q⟩
    · rcases List.mem_cons.mp hmem with e1 | hmem
      · exact absurd (e1 ▸ Heap.lt_size eo) (Nat.lt_irrefl _)
      · cases hmem
    · show Value.bool _ = Value.bool _
      rw [if_neg Bool.false_ne_true, ← L2.any_range, List.size_toArray, ← rv.length, t.length]
  · obtain ⟨its, rv, hl, _⟩ := I.tuple hs
    refine call_any_walk (iter_anyT hl fun s₂ e2 st hne => ?_)
    subst e2
    refine ⟨_, _, _, _, _, _, _, rfl, Walks.tuple (A := X.A.in1) (I.ok.hd hc) _ a hne its.toArray, st, truth_flat rv t, fun h' tk hk => ?_⟩
    refine ⟨.bl _, H, I.kept fun b o eo => hk b o (fun hmem => ?_) (Heap.get?_push_of_some _ eo), ?_, q⟩
    · rcases List.mem_cons.mp hmem with e1 | hmem
      · exact absurd (e1 ▸ Heap.lt_size eo) (Nat.lt_irrefl _)
      · cases hmem
    · show Value.bool _ = Value.bool _
      rw [if_neg Bool.false_ne_true, ← L2.any_range, List.size_toArray, ← rv.length, t.length]
theorem cr_allV (hc : X.calm = true) : CallR X (.builtin "all") (rAnyV X.K true) := by
  intro pins s σ H vs us Q I r h
  obtain ⟨a, xs, bs, rfl, hs, t, q⟩ := h
  rw [Vals.ref1 r]
  rcases hs with hs | hs
  · obtain ⟨its, rv, hl, _⟩ := I.list hs
    refine call_all_walk (iter_any hl.isList fun s₂ e2 st hne => ?_)
    subst e2
    refine ⟨_, _, _, _, _, _, _, rfl, Walks.list (A := X.A.in1) (I.ok.hd hc) _ a hne its.toArray, st, truth_flat rv t, fun h' tk hk => ?_⟩
    refine ⟨.bl _, H, I.kept fun b o eo => hk b o (fun hmem => ?_) (Heap.get?_push_of_some _ eo), ?_, q⟩
    · rcases List.mem_cons.mp hmem with e1 | hmem
      · exact absurd (e1 ▸ Heap.lt_size eo) (Nat.lt_irrefl _)
      · cases hmem
    · show Value.bool _ = Value.bool _
      rw [if_pos rfl, ← L2.all_range, List.size_toArray, ← rv.length, t.length]
  · obtain ⟨its, rv, hl, _⟩ := I.tuple hs
    refine call_all_walk (iter_anyT hl fun s₂ e2 st hne => ?_)
    subst e2
    refine ⟨_, _, _, _, _, _, _, rfl, Walks.tuple (A := X.A.in1) (I.ok.hd hc) _ a hne its.toArray, st, truth_flat rv t, fun h' tk hk => ?_⟩
    refine ⟨.bl _, H, I.kept fun b o eo => hk b o (fun hmem => ?_) (Heap.get?_push_of_some _ eo), ?_, q⟩
    · rcases List.mem_cons.mp hmem with e1 | hmem
      · exact absurd (e1 ▸ Heap.lt_size eo) (Nat.lt_irrefl _)
      · cases hmem
    · show Value.bool _ = Value.bool _
      rw [if_pos rfl, ← L2.all_range, List.size_toArray, ← rv.length, t.length]
/-- what is flat as truth values -/
def truD : D → Option Bool
  | .bool b => some b
  | .int i => some (i != 0)
  | _ => none
def truA : List D → Option (List Bool)
  | [] => some []
  | d :: ds => (truD d).bind fun b => (truA ds).map (b :: ·)
theorem truA_ok {K : PySem.W.Frag} {Z : Hp} : ∀ {ds : List D} {vs : List V} {bs : List Bool}, truA ds = some bs → RpA K Z vs ds → TrA vs bs
  | [], _, _, e, .nil => by cases e; exact .nil
  | d :: ds, _, _, e, .cons r rs => by
    obtain ⟨b, e1, e2⟩ := Option.bind_eq_some_iff.mp e
    obtain ⟨bs, e3, e4⟩ := Option.map_eq_some_iff.mp e2
    subst e4
    refine .cons ?_ (truA_ok e3 rs)
    unfold truD at e1
    split at e1
    · cases e1; cases r; exact .bl _
    · cases e1; cases r; exact .int _
    · cases e1
def anyV (al : Bool) : List D → Option D
  | [d] => (itemsD d).bind fun ds => (truA ds).map fun bs => .bool (if al then bs.all id else bs.any id)
  | _ => none
theorem anyV_rd {al : Bool} (vs : List V) (ds : List D) (d : D) (S : List Slot) (σ : Sg) (c : Cfg) (Q : VK) (e : anyV al ds = some d) (hh : Holds X.K S σ c) (rs : LoA X.K c vs ds) (q : ∀ c' v, Stp c c' → Holds X.K S σ c' → Rp X.K c'.Z v d → Q v c'.H) : rAnyV X.K al vs c.H Q := by
  unfold anyV at e
  split at e
  · obtain ⟨es, e1, e2⟩ := Option.bind_eq_some_iff.mp e
    obtain ⟨bs, e3, e4⟩ := Option.map_eq_some_iff.mp e2
    subst e4
    obtain ⟨v, rfl, r⟩ := rs.one
    unfold itemsD at e1
    split at e1
    · cases e1
      obtain ⟨a, xs, rfl, a1, r1⟩ := r.lstI hh.zh
      exact ⟨a, xs, bs, rfl, .inl (SqL.of a1), truA_ok e3 r1, q c _ (Stp.refl _) hh (.bl _)⟩
    · cases e1
      obtain ⟨a, xs, rfl, a1, r1⟩ := r.tupI
      exact ⟨a, xs, bs, rfl, .inr (sameT hh.zh a1), truA_ok e3 r1, q c _ (Stp.refl _) hh (.bl _)⟩
    · cases e1
  · cases e
theorem cd_anyV (hc : X.calm = true) : CallD X W (.builtin "any") (anyV false) := ⟨_, cr_anyV hc, anyV_rd⟩
theorem cd_allV (hc : X.calm = true) : CallD X W (.builtin "all") (anyV true) := ⟨_, cr_allV hc, anyV_rd⟩
end
end FW

/-! FwO: instances: attributes, methods, making. -/
namespace FW
open PySem PySem.Spec L2
open PyProof.Rows hiding St
def fldD (cls f : Str) : D → Option D
  | .dict ((.list [], .str c) :: es) => if c = cls then esGet es (.str f) else none
  | _ => none
/-- an instance of the class without an attribute m -/
def isOb (cls m : Str) : D → Bool
  | .dict ((.list [], .str c) :: es) => decide (c = cls) && (esGet es (.str m)).isNone
  | _ => false
theorem fs_get {K : PySem.W.Frag} {Z : Hp} (f : Str) : ∀ {ns : List Str} {vs : List V} {ds : List D}, ns.length = ds.length → RpA K Z vs ds → RpO K Z ((ns.zip vs).lookup f) (esGet ((ns.map PyData.str).zip ds) (.str f))
  | [], _, _, _, _ => by simp [esGet]; exact .no
  | _ :: _, _, [], h, _ => by simp at h
  | n :: ns, _, d :: ds, h, .cons (v := v) (vs := vs) r rs => by
    have ih := fs_get f (ns := ns) (ds := ds) (by simpa using h) rs
    rw [List.zip_cons_cons, List.map_cons, List.zip_cons_cons]
    unfold esGet at ih ⊢
    by_cases e : n = f
    · subst e
      rw [List.lookup_cons_self, List.find?_cons_of_pos (by simp [sameK, sameK1])]
      exact .so r
    · have e1 : (f == n) = false := by
        rw [beq_eq_false_iff_ne]
        exact fun z => e z.symm
      rw [List.lookup_cons, e1, List.find?_cons_of_neg (by simp [sameK, sameK1, e])]
      exact ih
theorem Rp.obI {K : PySem.W.Frag} {Z : Hp} {v : V} {c : Str} {es : List (D × D)} (h : Rp K Z v (.dict ((.list [], .str c) :: es))) :
    ∃ (a dx : Addr) (ns : List Str) (vs : List V) (ds : List D), v = .ref a ∧ es = (ns.map PyData.str).zip ds ∧ Z a = some (.ins (He.ga K c) dx (ns.zip vs)) ∧ Z dx = some (.own a) ∧ ns.length = ds.length ∧ RpA K Z vs ds := by
  generalize ed : PyData.dict ((.list [], .str c) :: es) = d at h
  cases h with
  | @dk a o ks vs es' h1 h2 h3 =>
    exfalso
    injection ed with ed
    cases ks with
    | nil => simp at ed
    | cons k ks =>
      cases es' with
      | nil => simp at ed
      | cons e es' =>
        rw [List.map_cons, List.zip_cons_cons] at ed
        injection ed with e1 e2
        injection e1 with e3 e4
        cases k <;> cases e3
  | dt h1 h2 h3 =>
    exfalso
    injection ed with ed
    injection ed with e1 e2
    injection e1 with e3 e4
    injection e3 with e5
    cases e5
  | @ob a dx cls ns vs ds h1 h2 h3 h4 =>
    unfold obD at ed
    injection ed with ed
    injection ed with e1 e2
    injection e1 with e3 e4
    injection e4 with e5
    subst e5 e2
    exact ⟨_, _, _, _, _, rfl, rfl, h1, h2, h3, h4⟩
  | _ => cases ed
theorem fldD_some {cls f : Str} {d x : D} (e : fldD cls f d = some x) : ∃ es, d = .dict ((.list [], .str cls) :: es) ∧ esGet es (.str f) = some x := by
  unfold fldD at e
  split at e
  · split at e
    · rename_i c es h
      subst h
      exact ⟨es, rfl, e⟩
    · cases e
  · cases e
theorem isOb_some {cls m : Str} {d : D} (e : isOb cls m d = true) : ∃ es, d = .dict ((.list [], .str cls) :: es) ∧ esGet es (.str m) = none := by
  unfold isOb at e
  split at e
  · rename_i c es
    rw [Bool.and_eq_true] at e
    have h := of_decide_eq_true e.1
    subst h
    exact ⟨es, rfl, Option.isNone_iff_eq_none.mp e.2⟩
  · cases e
section
variable {X : Cx} {W : WX} {pos apos : Pos} {e o : Expr} {es : List Expr} {fe fo : EM D} {fa : EM (List D)}
/-- e.f -/
theorem de_fld {cls f : Str} (c : Cls X.K (He.ga X.K cls)) (n : NoAttr X.K (He.ga X.K cls) f) (he : DE X W e fe) (hb : attributeBase e f X.env (eval e X.env) = eval e X.env := by rfl) : DE X W (.Attribute e f pos) (eUn (fldD cls f) fe) := by
  refine PE.wk (pe_fld he hb) fun σ H Q q => ?_
  obtain ⟨S, Z, F, h, q⟩ := q
  refine ⟨S, Z, F, h, (Go.bind q).mono fun a S1 c1 s1 h1 q1 v rv => ?_⟩
  obtain ⟨d, e1, k⟩ := Go.opt q1
  obtain ⟨es, rfl, e2⟩ := fldD_some e1
  obtain ⟨p, dx, ns, vs, ds, rfl, rfl, z1, z2, hl, r⟩ := rv.obI
  have g := fs_get f hl r
  rw [e2] at g
  obtain ⟨u, e3, ru⟩ := g.some
  exact ⟨p, _, dx, _, u, rfl, h1.zh _ _ z1, c, n, e3, k c1 (Stp.refl _) h1 u ru⟩
/-- a method as it may be called -/
def CalM (P : Program) (w : World) (K : PySem.W.Frag) (mg : Str → Option Value) (base : Heap) (cls m : Str) (ps : List Str) (k : Nat) (sp : Sp) : Prop :=
  ∃ f fd, FnOk P w K mg base CX0 k f fd ps sp ∧ Cls K (He.ga K cls) ∧ Meth K (He.ga K cls) m f ∧ L2.Binds K fd ps []
/-- o.m(..) -/
def eMeth (cls m : Str) (k : Nat) (g : List D → Rs) (fo : EM D) (fa : EM (List D)) : EM D := eBind fo fun d => if isOb cls m d then eBind fa fun ds => if ds.length = k then rs0 (g (d :: ds)) else fun _ => .bad else fun _ => .bad
theorem meth_rd {cls m : Str} {k : Nat} {g : List D → Rs} (σ : Sg) (H : Hp) (Q : VK) (q : tD (gx X W) (eMeth cls m k g fo fa) σ H Q) : tMeth (He.ga X.K cls) m (spD0 X.K (k + 1) g) [] E0 (tD (gx X W) fo) (tDs (gx X W) fa) σ H Q := by
  obtain ⟨S, Z, F, h, q⟩ := q
  refine ⟨S, Z, F, h, (Go.bind q).mono fun d S1 c1 s1 h1 q1 v rv => ?_⟩
  split at q1
  rotate_left
  · exact q1.elim
  rename_i ho
  obtain ⟨es, rfl, e2⟩ := isOb_some ho
  obtain ⟨p, dx, ns, vs, ds, rfl, rfl, z1, z2, hl, r⟩ := rv.obI
  have gg := fs_get m hl r
  rw [e2] at gg
  have e3 : (ns.zip vs).lookup m = none := by
    cases q : (ns.zip vs).lookup m with
    | none => rfl
    | some u =>
      rw [q] at gg
      cases gg
  refine ⟨p, dx, _, rfl, h1.zh _ _ z1, e3, S1, c1.Z, c1.F, h1, (Go.bind q1).mono fun as S2 c2 s2 h2 q2 us ru => ?_⟩
  by_cases hk : as.length = k
  · rw [if_pos hk] at q2
    refine ⟨_ :: as, c2.Z, by simp [hk], h2.zh, by rw [List.append_nil]; exact .cons (rv.mono s2.z) ru, ?_⟩
    split
    · rename_i d' eg
      rw [eg] at q2
      intro c' v st z rv
      obtain ⟨s3, h3⟩ := h2.afterC st z
      exact q2 _ s3 h3 v rv
    · rename_i hne
      cases eg : g (PyData.dict ((PyData.list [], PyData.str cls) :: (List.map PyData.str ns).zip ds) :: as) with
      | ok d' => exact absurd eg (hne d')
      | ex y => rw [eg] at q2; exact q2.elim
      | bad => rw [eg] at q2; exact q2.elim
  · rw [if_neg hk] at q2
    exact q2.elim
theorem de_meth {cls m : Str} {kk k : Nat} {ps : List Str} {g : List D → Rs} {pl : Sem Bool} (C : CalM X.prog X.w X.K X.mg X.base cls m ps kk (spD0 X.K (k + 1) g)) (hr : Room kk X.A) (ho : DE X W o fo) (ha : DA X W (e :: es) fa)
    (hst : starEach (e :: es) X.env = (false, eval e X.env) :: starEach es X.env := by rfl) (hpl : (backTo pos (starEach es X.env)).any (·.1) = false := by rfl)
    (ht : eval (.Call (.Attribute o m apos) (e :: es) [] pos) X.env = (do
      let ov ← eval o X.env
      standAt apos.atName
      let (f, first) ← holding [ov] (getMethod ov m pl)
      callWith pos f first (backTo pos (starEach (e :: es) X.env)) (backToKw pos (keywordEach [] X.env))) := by rfl) : DE X W (.Call (.Attribute o m apos) (e :: es) [] pos) (eMeth cls m k g fo fa) := by
  obtain ⟨f, fd, F, c, hm, hb⟩ := C
  exact PE.wk (pe_meth (E := E0) ho c hm F hr hb .nil pass0 ha hst hpl ht) meth_rd
theorem de_meth0 {cls m : Str} {kk : Nat} {ps : List Str} {g : List D → Rs} {pl : Sem Bool} (C : CalM X.prog X.w X.K X.mg X.base cls m ps kk (spD0 X.K (0 + 1) g)) (hr : Room kk X.A) (ho : DE X W o fo)
    (ht : eval (.Call (.Attribute o m apos) [] [] pos) X.env = (do
      let ov ← eval o X.env
      standAt apos.atName
      let (f, first) ← holding [ov] (getMethod ov m pl)
      callWith pos f first (backTo pos (starEach [] X.env)) (backToKw pos (keywordEach [] X.env))) := by rfl) : DE X W (.Call (.Attribute o m apos) [] [] pos) (eMeth cls m 0 g fo aNil) := by
  obtain ⟨f, fd, F, c, hm, hb⟩ := C
  refine PE.wk (pe_meth0 (E := E0) ho c hm F hr hb .nil pass0 ht) fun σ H Q q => ?_
  have q2 := meth_rd σ H Q q
  obtain ⟨S, Z, F, h, q2⟩ := q2
  refine ⟨S, Z, F, h, q2.mono fun d S1 c1 s1 h1 q3 v rv => ?_⟩
  obtain ⟨p, dx, fs, e1, e2, e3, q4⟩ := q3 v rv
  refine ⟨p, dx, fs, e1, e2, e3, ?_⟩
  obtain ⟨S2, Z2, F2, h2, q5⟩ := q4
  exact q5 _ (Stp.refl _) h2 [] .nil
/-! ### an instance while it is made -/
theorem Holds.objAt {K : PySem.W.Frag} {S : List Slot} {σ : Sg} {c : Cfg} {i : Nat} {a dx : Addr} {cls : Str} {ns : List Str} {ds : List D} (h : Holds K S σ c) (e : S[i]? = some (.obj a dx cls ns ds)) :
    ∃ vs, σ[i]? = some (some (V.ref a)) ∧ c.H a = some (.ins (He.ga K cls) dx (ns.zip vs)) ∧ c.H dx = some (.own a) ∧ ns.length = ds.length ∧ RpA K c.Z vs ds ∧ a ∈ c.F ∧ dx ∈ c.F ∧ a ≠ dx ∧
      ∀ ns' ds' vs', ns'.length = ds'.length → RpA K c.Z vs' ds' → Stp c ⟨c.Z, upd c.H a (.ins (He.ga K cls) dx (ns'.zip vs')), c.F⟩ ∧ Holds K (S.set i (.obj a dx cls ns' ds')) σ ⟨c.Z, upd c.H a (.ins (He.ga K cls) dx (ns'.zip vs')), c.F⟩ := by
  obtain ⟨A, Fi, B, x, e1, e2, ⟨vs, e3, e4, e5, e6, e7, e8⟩, up⟩ := h.l.at e
  subst e3 e4
  have aF : a ∈ c.F := by rw [e1]; simp
  have dF : dx ∈ c.F := by rw [e1]; simp
  have nd := h.nd
  have ne : a ≠ dx := by
    rw [e1] at nd
    rintro rfl
    simp only [List.nodup_append, List.nodup_cons, List.mem_append, List.mem_cons] at nd
    grind
  refine ⟨vs, e2, e5, e6, e7, e8, aF, dF, ne, fun ns' ds' vs' hl r => ⟨⟨Same.refl _, fun b o q hn => (upd_ne (show b ≠ a from fun z => hn (z ▸ aF))).trans q, fun b o q => ?_, fun b o q => .inl q, fun b m => .inl m⟩, ⟨?_, h.nd, h.zf, fun b o q => ?_⟩⟩⟩
  · by_cases hb : b = a
    · subst hb
      exact ⟨_, upd_same⟩
    · exact ⟨o, (upd_ne hb).trans q⟩
  · have q := up ⟨c.Z, upd c.H a (.ins (He.ga K cls) dx (ns'.zip vs')), c.F⟩ (.obj a dx cls ns' ds') (some (.ref a)) [a, dx] (Same.refl _) (fun b m => upd_ne (show b ≠ a by
      rintro rfl
      rw [e1] at nd
      simp only [List.nodup_append, List.nodup_cons, List.mem_append, List.mem_cons] at nd m
      grind)) ⟨vs', rfl, rfl, upd_same, (upd_ne (Ne.symm ne)).trans e6, hl, r⟩
    rw [list_set_self e2] at q
    show HoldsL K ⟨c.Z, upd c.H a (.ins (He.ga K cls) dx (ns'.zip vs')), c.F⟩ (S.set i (.obj a dx cls ns' ds')) σ c.F
    have e1' := e1
    generalize c.F = FF at e1' q ⊢
    rw [e1']
    rw [e1'] at q
    exact q
  · have nb : b ≠ a := by
      rintro rfl
      have q' : c.Z b = some o := q
      rw [h.zf b aF] at q'
      cases q'
    exact (upd_ne nb).trans (h.zh b o q)
/-- a new attribute -/
def putO (f : Str) (d : D) : Slot → Option Slot
  | .obj a dx cls ns ds => if ns.contains f || decide (1000 ≤ ns.length) then none else some (.obj a dx cls (ns ++ [f]) (ds ++ [d]))
  | _ => none
theorem putF_zip (f : Str) (y : V) : ∀ {ns : List Str} {vs : List V}, ns.length = vs.length → ns.contains f = false → putF f y (ns.zip vs) = (ns ++ [f]).zip (vs ++ [y])
  | [], [], _, _ => rfl
  | [], _ :: _, h, _ => by simp at h
  | _ :: _, [], h, _ => by simp at h
  | n :: ns, v :: vs, h, hc => by
    rw [List.contains_cons, Bool.or_eq_false_iff] at hc
    have ih := putF_zip f y (ns := ns) (vs := vs) (by simpa using h) hc.2
    rw [List.zip_cons_cons]
    have ne : ¬ n = f := fun z => by
      rw [z] at hc
      simp at hc
    show (if n = f then (n, y) :: ns.zip vs else (n, v) :: putF f y (ns.zip vs)) = _
    rw [if_neg ne, ih]
    rfl
theorem put_rd {S : List Slot} {σ : Sg} {c : Cfg} {i : Nat} {f cls0 : Str} {d : D} {s' : Slot} {y : V} (cl : Cls X.K (He.ga X.K cls0)) (na : NoAttr X.K (He.ga X.K cls0) f) (h : Holds X.K S σ c) (hc : ∀ a dx cls ns ds, S[i]? = some (.obj a dx cls ns ds) → cls = cls0)
    (e : ((S[i]?).bind (putO f d)) = some s') (ry : Rp X.K c.Z y d) :
    ∃ a C dx fs, σ[i]? = some (some (V.ref a)) ∧ c.H a = some (.ins C dx fs) ∧ Cls X.K C ∧ NoAttr X.K C f ∧ fs.length < 1000 ∧ ∃ c', Stp c c' ∧ Holds X.K (S.set i s') σ c' ∧ c'.H = upd c.H a (.ins C dx (putF f y fs)) := by
  obtain ⟨s, e1, e2⟩ := Option.bind_eq_some_iff.mp e
  unfold putO at e2
  split at e2
  · rename_i a dx cls ns ds
    have hcl := hc _ _ _ _ _ e1
    subst hcl
    split at e2
    · cases e2
    · rename_i hg
      rw [Bool.or_eq_true, not_or, decide_eq_true_iff] at hg
      cases e2
      obtain ⟨vs, e3, e4, e5, e6, e7, _, _, _, back⟩ := h.objAt e1
      have hl := e7.length
      obtain ⟨st, hh⟩ := back (ns ++ [f]) (ds ++ [d]) (vs ++ [y]) (by simp [e6]) (e7.append (.cons ry .nil))
      refine ⟨a, _, dx, _, e3, e4, cl, na, ?_, _, st, hh, ?_⟩
      · rw [List.length_zip]
        omega
      · rw [putF_zip f y (by omega) (by simpa using hg.1)]
  · cases e2
def clsAt (cls0 : Str) (S : List Slot) (i : Nat) : Bool := match S[i]? with
  | some (.obj _ _ cls _ _) => decide (cls = cls0)
  | _ => true
theorem clsAt_ok {cls0 : Str} {S : List Slot} {i : Nat} (h : clsAt cls0 S i = true) : ∀ a dx cls ns ds, S[i]? = some (.obj a dx cls ns ds) → cls = cls0 := by
  intro a dx cls ns ds e
  unfold clsAt at h
  rw [e] at h
  exact of_decide_eq_true h
/-- self.f = e -/
def sFldSet (i : Nat) (cls f : Str) (fe : EM D) : SM := sOf fe fun d S => if clsAt cls S i then (match (S[i]?).bind (putO f d) with
  | some s' => .nx (S.set i s')
  | none => .bad) else .bad
variable {x : Str} {p : Pos}
theorem ds_fld (i : Nat) {cls f : Str} {apos' : Pos} {value : Expr} (cl : Cls X.K (He.ga X.K cls)) (na : NoAttr X.K (He.ga X.K cls) f) (hv : DE X W value fe) (hN : X.N[i]? = some x := by rfl) (hvis : Vis X.env.scope x := by first | exact Or.inl rfl | exact Or.inr (Or.inl rfl) | exact Or.inr (Or.inr rfl)) (hd : (x == ("__debug__" : Str)) = false := by decide) (hcd : (x == ("__classdict__" : Str)) = false := by decide)
    (hs : swapsWith value (some (.Attribute (.Name x p) f apos')) pos.line X.env = pure false := by rfl) : DS X W (.Assign [.Attribute (.Name x p) f apos'] value pos) (sFldSet i cls f fe) := by
  refine PS.wk (ps_fld (pe_var hN hvis hd hcd) hv hs) fun Q σ H q => ?_
  obtain ⟨S, Z, F, h, q⟩ := q
  refine ⟨S, Z, F, h, Go.toS q fun d S1 c1 s1 h1 q1 y ry => ?_⟩
  split at q1
  rotate_left
  · exact q1.elim
  rename_i hc
  split at q1
  · rename_i s' e1
    obtain ⟨a, C, dx, fs, e2, e3, e4, e5, e6, c', st, hh, e7⟩ := put_rd cl na h1 (clsAt_ok hc) e1 ry
    refine ⟨.ref a, e2, a, C, dx, fs, rfl, e3, e4, e5, e6, ?_⟩
    rw [← e7]
    exact q1 _ c' st hh
  · exact q1.elim
/-- .. as a target -/
def gAttr (K : PySem.W.Frag) (ta : TE) (f : Str) : TG := fun v σ H Q => ta σ H fun x H1 => ∃ a C dx fs, x = .ref a ∧ H1 a = some (.ins C dx fs) ∧ Cls K C ∧ NoAttr K C f ∧ fs.length < 1000 ∧ Q σ (upd H1 a (.ins C dx (putF f v fs)))
theorem pg_fld {f : Str} {ta : TE} (ha : PE X o ta) : PG X (.Attribute o f pos) (gAttr X.K ta f) := by
  refine ⟨fun pins s σ H v u Q I r h => ?_⟩
  refine PySem.W.kas_attr (thn (ha.run pins s σ H _ I h) fun ov s1 ⟨x, H1, I1, rx, a, C, dx, fs, ex, ea, c, n, l, q⟩ => ?_)
  subst ex
  obtain rfl : ov = Value.ref a := rx
  exact setattr_ok I1 ea c n l r fun s2 I2 => ⟨σ, _, I2, q⟩
def gFld (i : Nat) (cls f : Str) : Tg := fun d S => if clsAt cls S i then ((S[i]?).bind (putO f d)).map fun s' => S.set i s' else none
theorem dg_fld (i : Nat) {cls f : Str} (cl : Cls X.K (He.ga X.K cls)) (na : NoAttr X.K (He.ga X.K cls) f) (hN : X.N[i]? = some x := by rfl) (hvis : Vis X.env.scope x := by first | exact Or.inl rfl | exact Or.inr (Or.inl rfl) | exact Or.inr (Or.inr rfl)) (hd : (x == ("__debug__" : Str)) = false := by decide) (hcd : (x == ("__classdict__" : Str)) = false := by decide) :
    DG X W (.Attribute (.Name x p) f pos) [] (gFld i cls f) := by
  refine PG.wk (pg_fld (pe_var hN hvis hd hcd)) fun v σ H Q q => ?_
  obtain ⟨S, Z, F, d, S', h, rd, e, q⟩ := q
  unfold gFld at e
  split at e
  rotate_left
  · cases e
  rename_i hc
  obtain ⟨s', e1, e8⟩ := Option.map_eq_some_iff.mp e
  subst e8
  obtain ⟨a, C, dx, fs, e2, e3, e4, e5, e6, c', st, hh, e7⟩ := put_rd cl na h (clsAt_ok hc) e1 rd
  refine ⟨.ref a, e2, a, C, dx, fs, rfl, e3, e4, e5, e6, ?_⟩
  have q2 := q σ c' st hh (Only.refl _ _)
  rw [e7] at q2
  exact q2
/-- a method of the instance while it is made; a number comes back -/
def eMethO (i : Nat) (cls m : Str) (k : Nat) (g : List D → Rs) (fa : EM (List D)) : EM D := fun S0 => match S0[i]? with
  | some (.obj _ _ c ns _) => if c = cls ∧ ns.contains m = false then eBind fa (fun as S => match S[i]? with
    | some (.obj _ _ c ns ds) => if c = cls ∧ as.length = k then (match g (obD c ns ds :: as) with
      | .ok (.int n) => .ok (.int n) S
      | _ => .bad) else .bad
    | _ => .bad) S0 else .bad
  | _ => .bad
theorem zip_lookup_none {m : Str} : ∀ {ns : List Str} {vs : List V}, ns.contains m = false → (ns.zip vs).lookup m = none
  | [], _, _ => rfl
  | _ :: _, [], _ => rfl
  | n :: ns, v :: vs, h => by
    rw [List.contains_cons, Bool.or_eq_false_iff] at h
    rw [List.zip_cons_cons, List.lookup_cons, h.1]
    exact zip_lookup_none h.2
theorem de_methO (i : Nat) {cls m : Str} {kk k : Nat} {ps : List Str} {g : List D → Rs} {pl : Sem Bool} (C : CalM X.prog X.w X.K X.mg X.base cls m ps kk (spD0 X.K (k + 1) g)) (hr : Room kk X.A) (ha : DA X W (e :: es) fa)
    (hN : X.N[i]? = some x := by rfl) (hvis : Vis X.env.scope x := by first | exact Or.inl rfl | exact Or.inr (Or.inl rfl) | exact Or.inr (Or.inr rfl)) (hd : (x == ("__debug__" : Str)) = false := by decide) (hcd : (x == ("__classdict__" : Str)) = false := by decide)
    (hst : starEach (e :: es) X.env = (false, eval e X.env) :: starEach es X.env := by rfl) (hpl : (backTo pos (starEach es X.env)).any (·.1) = false := by rfl)
    (ht : eval (.Call (.Attribute (.Name x p) m apos) (e :: es) [] pos) X.env = (do
      let ov ← eval (.Name x p) X.env
      standAt apos.atName
      let (f, first) ← holding [ov] (getMethod ov m pl)
      callWith pos f first (backTo pos (starEach (e :: es) X.env)) (backToKw pos (keywordEach [] X.env))) := by rfl) : DE X W (.Call (.Attribute (.Name x p) m apos) (e :: es) [] pos) (eMethO i cls m k g fa) := by
  obtain ⟨f, fd, FF, c, hm, hb⟩ := C
  refine PE.wk (pe_meth (E := E0) (pe_var hN hvis hd hcd) c hm FF hr hb .nil pass0 ha hst hpl ht) fun σ H Q q => ?_
  obtain ⟨S, Z, F, h, q⟩ := q
  unfold eMethO at q
  split at q
  rotate_left
  · exact q.elim
  rename_i a dx c0 ns ds e0
  split at q
  rotate_left
  · exact q.elim
  rename_i hc
  obtain ⟨rfl, hc2⟩ := hc
  obtain ⟨vs, e2, e3, e4, e5, e6, _⟩ := h.objAt e0
  refine ⟨.ref a, e2, a, dx, _, rfl, e3, zip_lookup_none hc2, S, Z, F, h, (Go.bind q).mono fun as S2 c2 s2 h2 q2 us ru => ?_⟩
  split at q2
  rotate_left
  · exact q2.elim
  rename_i a2 dx2 c3 ns2 ds2 e7
  split at q2
  rotate_left
  · exact q2.elim
  rename_i hk
  obtain ⟨rfl, hk⟩ := hk
  obtain ⟨vs2, e8, e9, e10, e11, e12, aF, dF, ne, _⟩ := h2.objAt e7
  rw [e2] at e8
  cases e8
  have za : c2.Z a = none := h2.zf a aF
  have zd : c2.Z dx2 = none := h2.zf dx2 dF
  have sm1 : Same c2.Z (upd c2.Z a (.ins (He.ga X.K c3) dx2 (ns2.zip vs2))) := same_upd za
  have zd1 : (upd c2.Z a (.ins (He.ga X.K c3) dx2 (ns2.zip vs2))) dx2 = none := (upd_ne (Ne.symm ne)).trans zd
  have sm2 : Same c2.Z (upd (upd c2.Z a (.ins (He.ga X.K c3) dx2 (ns2.zip vs2))) dx2 (.own a)) := sm1.trans (same_upd zd1)
  have za2 : (upd (upd c2.Z a (.ins (He.ga X.K c3) dx2 (ns2.zip vs2))) dx2 (.own a)) a = some (.ins (He.ga X.K c3) dx2 (ns2.zip vs2)) := (upd_ne ne).trans upd_same
  refine ⟨obD c3 ns2 ds2 :: as, upd (upd c2.Z a (.ins (He.ga X.K c3) dx2 (ns2.zip vs2))) dx2 (.own a), by simp [hk], fun b o q => ?_, ?_, ?_⟩
  · by_cases hb1 : b = dx2
    · subst hb1
      rw [upd_same] at q
      cases q
      exact e10
    · rw [upd_ne hb1] at q
      by_cases hb2 : b = a
      · subst hb2
        rw [upd_same] at q
        cases q
        exact e9
      · rw [upd_ne hb2] at q
        exact h2.zh b o q
  · rw [List.append_nil]
    exact .cons (.ob za2 upd_same e11 (e12.mono sm2)) (ru.mono sm2)
  · split at q2
    · rename_i n eg
      rw [eg]
      intro c' v st z rv
      cases rv
      have kk : ∀ b o, c2.H b = some o → c'.H b = some o := fun b o q => st.k b o q (by simp)
      have hh : Holds X.K S2 σ ⟨c2.Z, c'.H, c2.F⟩ := by
        refine ⟨HoldsL.tr (c := c2) (c' := ⟨c2.Z, c'.H, c2.F⟩) (Same.refl _) h2.l fun b m => ?_, h2.nd, h2.zf, fun b o q => kk b o (h2.zh b o q)⟩
        obtain ⟨o, q, _⟩ := h2.l.own b m
        show c'.H b = c2.H b
        rw [kk b o q, q]
      exact q2 ⟨c2.Z, c'.H, c2.F⟩ ⟨Same.refl _, fun b o q _ => kk b o q, fun b o q => ⟨o, kk b o q⟩, fun b o q => .inl q, fun b m => .inl m⟩ hh _ (.int n)
    · exact q2.elim
/-! ### __init__ -/
def outI (a dx : Addr) (cls : Str) : Out → Option (List Str × List D)
  | .nx (.obj a' dx' c ns ds :: _) => if a' = a ∧ dx' = dx ∧ c = cls then some (ns, ds) else none
  | _ => none
def runI (n : Nat) (body : SM) (cls : Str) (a dx : Addr) (ds : List D) : Option (List Str × List D) := outI a dx cls (body (.obj a dx cls [] [] :: startS ds (n - 1)))
def spI (K : PySem.W.Frag) (cls : Str) (m : Nat) (g : Addr → Addr → List D → Option (List Str × List D)) : Sp := fun vs H Q _ => ∃ a dx vs' ds Z, vs = .ref a :: vs' ∧ ds.length + 1 = m ∧ H a = some (.ins (He.ga K cls) dx []) ∧ H dx = some (.own a) ∧ a ≠ dx ∧ Z a = none ∧ Z dx = none ∧ Same Z H ∧ RpA K Z vs' ds ∧
  match g a dx ds with
  | some (ns, fs) => ∀ c' us, Stp ⟨Z, H, [a, dx]⟩ c' → Same c'.Z c'.H → c'.Z a = none → c'.Z dx = none → c'.H a = some (.ins (He.ga K cls) dx (ns.zip us)) → c'.H dx = some (.own a) → ns.length = fs.length → RpA K c'.Z us fs → Q .non c'.H
  | none => False
end
section
variable {P : Program} {w : World} {K : PySem.W.Frag} {mg : Str → Option Value} {base : Heap}
theorem ok_I {x qual : Str} {st : Stmt} {f : Addr} {fd : FuncData} {N ps : List Str} {k : Nat} {body : SM} (cls : Str) (F : Fun K x qual st f fd) (S : FnScope N ps (defScope st)) (hN : 0 < N.length)
    (hb : ∀ (cdv : Value) (A : Around) (outer : List Env) (s : Shared) (H : Hp) (E : XK), Room k (A.deeper (envOfC qual (defScope st) s.heap.objs.size f cdv)) →
      DSs (cxOf CX0 P w K mg base N qual (defScope st) f cdv A outer s H E).nox W0 (defBody st) body) : FnOk P w K mg base CX0 (k + 1) f fd ps (spI K cls ps.length (runI N.length body cls)) := by
  refine F.ok S (fun vs H Q E h => ?_) (fun cdv A outer s H vs Q E hr h => ?_)
  · obtain ⟨a, dx, vs', ds, Z, rfl, hl, _, _, _, _, _, _, r, _⟩ := h
    rw [List.length_cons, r.length]
    exact hl
  · obtain ⟨a, dx, vs', ds, Z, rfl, hl, ha, hd, ne, za, zd, zh, r, q⟩ := h
    have e0 : L2.start N (.ref a :: vs') = some (.ref a) :: (vs'.map some ++ List.replicate (N.length - 1 - vs'.length) none) := by
      unfold L2.start
      rw [List.map_cons, List.cons_append, List.length_cons]
      congr 3
      omega
    have hst : Holds K (.obj a dx cls [] [] :: startS ds (N.length - 1)) (L2.start N (.ref a :: vs')) ⟨Z, H, [a, dx]⟩ := by
      refine ⟨?_, by simp [ne], fun b m => ?_, zh⟩
      · rw [e0]
        have q : HoldsL K ⟨Z, H, [a, dx]⟩ (.obj a dx cls [] [] :: startS ds (N.length - 1)) (some (.ref a) :: (vs'.map some ++ List.replicate (N.length - 1 - vs'.length) none)) ([a, dx] ++ []) := by
          refine .cons ⟨[], rfl, rfl, ha, hd, rfl, .nil⟩ ?_
          unfold startS
          rw [r.length]
          exact startL (c := ⟨Z, H, [a, dx]⟩) _ r
        exact q
      · have m' : b = a ∨ b = dx := by simpa using m
        rcases m' with z | z
        · rw [z]; exact za
        · rw [z]; exact zd
    refine ⟨_, hb cdv A outer s H E hr, _, Z, [a, dx], hst, ?_⟩
    unfold runI outI at q
    cases e : body (.obj a dx cls [] [] :: startS ds (N.length - 1)) with
    | nx S' =>
      rw [e] at q
      match S', q with
      | [], q => exact q.elim
      | .un :: _, q => exact q.elim
      | .dat _ :: _, q => exact q.elim
      | .own _ :: _, q => exact q.elim
      | .dic _ _ :: _, q => exact q.elim
      | .drw _ _ _ :: _, q => exact q.elim
      | .obj a' dx' c ns fs :: S', q =>
        by_cases ea : a' = a ∧ dx' = dx ∧ c = cls
        · obtain ⟨rfl, rfl, rfl⟩ := ea
          simp only [and_self, if_true] at q
          intro σ' c' st' h'
          obtain ⟨us, e2, e3, e4, e5, e6, aF, dF, _⟩ := h'.objAt (i := 0) rfl
          exact q c' us st' h'.zh (h'.zf _ aF) (h'.zf _ dF) e3 e4 e5 e6
        · simp only [if_neg ea] at q
    | rt d S' => rw [e] at q; exact q.elim
    | bk S' => rw [e] at q; exact q.elim
    | ct S' => rw [e] at q; exact q.elim
    | ex x S' => rw [e] at q; exact q.elim
    | bad => rw [e] at q; exact q.elim
end
section
variable {X : Cx} {W : WX} {pos p : Pos} {e : Expr} {es : List Expr} {fa : EM (List D)} {x : Str}
/-- the class as it may be called -/
def CalI (P : Program) (w : World) (K : PySem.W.Frag) (mg : Str → Option Value) (base : Heap) (cls : Str) (ps : List Str) (k : Nat) (sp : Sp) : Prop :=
  ∃ f fd, FnOk P w K mg base CX0 k f fd ps sp ∧ Mk K (He.ga K cls) f ∧ mg cls = some (.ref (He.ga K cls)) ∧ L2.Binds K fd ps []
/-- an instance is made: the numbers at which it lies are taken for nought -/
def eMake (cls : Str) (k : Nat) (g : List D → Option (List Str × List D)) (fa : EM (List D)) : EM D := eBind fa fun ds => if ds.length = k then (match g ds with
  | some (ns, fs) => eRet (obD cls ns fs)
  | none => fun _ => .bad) else fun _ => .bad
theorem de_make {cls : Str} {kk k : Nat} {ps : List Str} {g' : Addr → Addr → List D → Option (List Str × List D)} {g : List D → Option (List Str × List D)} (C : CalI X.prog X.w X.K X.mg X.base cls ps kk (spI X.K cls (k + 1) g')) (hg' : ∀ a dx ds r, g ds = some r → g' a dx ds = some r) (hr : Room (kk + 1) X.A) (ha : DA X W (e :: es) fa) (hg : Gl X cls := by rfl)
    (hdb : (cls == ("__debug__" : Str)) = false := by decide) (he : starEach (e :: es) X.env = (false, eval e X.env) :: starEach es X.env := by rfl) (hpl : (backTo pos (starEach es X.env)).any (·.1) = false := by rfl) : DE X W (.Call (.Name cls p) (e :: es) [] pos) (eMake cls k g fa) := by
  obtain ⟨f, fd, FF, M, hm, hb⟩ := C
  refine PE.wk (pe_make (E := E0) M FF hr hg hm hb .nil pass0 ha hdb he hpl) fun σ H Q q => ?_
  obtain ⟨S, Z, F, h, q⟩ := q
  refine ⟨S, Z, F, h, (Go.bind q).mono fun ds S1 c1 s1 h1 q1 vs rs => ?_⟩
  intro y dx hy hdx ne
  split at q1
  rotate_left
  · exact q1.elim
  rename_i hk
  cases eg : g ds with
  | none => rw [eg] at q1; exact q1.elim
  | some nf =>
    obtain ⟨ns, fs⟩ := nf
    rw [eg] at q1
    have zy : c1.Z y = none := h1.nf hy
    have zd : c1.Z dx = none := h1.nf hdx
    have old : ∀ {b o}, c1.H b = some o → (upd (upd c1.H dx (.own y)) y (.ins (He.ga X.K cls) dx [])) b = some o := fun {b o} q => by
      rw [upd_ne (ne_of_none q hy), upd_ne (ne_of_none q hdx)]
      exact q
    have new : ∀ {b}, (upd (upd c1.H dx (.own y)) y (.ins (He.ga X.K cls) dx [])) b = none → c1.H b = none := fun {b} q => by
      cases z : c1.H b with
      | none => rfl
      | some o =>
        rw [old z] at q
        cases q
    refine ⟨y, dx, vs, ds, c1.Z, by rw [List.append_nil], by simp [hk], upd_same, (upd_ne ne).trans upd_same, Ne.symm ne, zy, zd, fun b o q => old (h1.zh b o q), rs, ?_⟩
    rw [hg' _ _ _ _ eg]
    intro c' us st zh za2 zd2 e3 e4 e5 e6
    refine ⟨rfl, ?_⟩
    have sm1 : Same c'.Z (upd c'.Z y (.ins (He.ga X.K cls) dx (ns.zip us))) := same_upd za2
    have sm2 : Same c'.Z (upd (upd c'.Z y (.ins (He.ga X.K cls) dx (ns.zip us))) dx (.own y)) := sm1.trans (same_upd ((upd_ne ne).trans zd2))
    have kk : ∀ b o, c1.H b = some o → c'.H b = some o := fun b o q => st.k b o (old q) (by
      have n1 : b ≠ y := ne_of_none q hy
      have n2 : b ≠ dx := ne_of_none q hdx
      simp [n1, n2])
    have zn : ∀ b o, c'.Z b = some o → c1.Z b = some o ∨ c1.H b = none ∨ ∃ xs, c1.H b = some (.tup xs) := fun b o q => by
      rcases st.n b o q with z | z | z | ⟨xs, z⟩
      · exact .inl z
      · exact .inr (.inl (new z))
      · have m' : b = y ∨ b = dx := by simpa using z
        rcases m' with z | z
        · rw [z]; exact .inr (.inl hy)
        · rw [z]; exact .inr (.inl hdx)
      · by_cases b1 : b = y
        · rw [b1]; exact .inr (.inl hy)
        · by_cases b2 : b = dx
          · rw [b2]; exact .inr (.inl hdx)
          · have z' : (upd (upd c1.H dx (.own y)) y (.ins (He.ga X.K cls) dx [])) b = some (.tup xs) := z
            rw [upd_ne b1, upd_ne b2] at z'
            exact .inr (.inr ⟨xs, z'⟩)
    have zn2 : ∀ b o, (upd (upd c'.Z y (.ins (He.ga X.K cls) dx (ns.zip us))) dx (.own y)) b = some o → c1.Z b = some o ∨ c1.H b = none ∨ ∃ xs, c1.H b = some (.tup xs) := fun b o q => by
      by_cases b2 : b = dx
      · rw [b2]; exact .inr (.inl hdx)
      · rw [upd_ne b2] at q
        by_cases b1 : b = y
        · rw [b1]; exact .inr (.inl hy)
        · rw [upd_ne b1] at q
          exact zn b o q
    refine q1 ⟨upd (upd c'.Z y (.ins (He.ga X.K cls) dx (ns.zip us))) dx (.own y), c'.H, c1.F⟩ ⟨st.z.trans sm2, fun b o q _ => kk b o q, fun b o q => ⟨o, kk b o q⟩, fun b o q => ?_, fun b m => .inl m⟩ ⟨HoldsL.tr (c := c1) (c' := ⟨_, c'.H, c1.F⟩) (st.z.trans sm2) h1.l fun a m => ?_, h1.nd, fun a m => ?_, fun b o q => ?_⟩ (.ref y) ?_
    · rcases zn2 b o q with z | z | z
      · exact .inl z
      · exact .inr (.inl z)
      · exact .inr (.inr (.inr z))
    · obtain ⟨o, q, _⟩ := h1.l.own a m
      show c'.H a = c1.H a
      rw [kk a o q, q]
    · obtain ⟨o, q, q2⟩ := h1.l.own a m
      show (upd (upd c'.Z y (.ins (He.ga X.K cls) dx (ns.zip us))) dx (.own y)) a = none
      cases z : (upd (upd c'.Z y (.ins (He.ga X.K cls) dx (ns.zip us))) dx (.own y)) a with
      | none => rfl
      | some o2 =>
        rcases zn2 a o2 z with z | z | ⟨xs, z⟩
        · rw [h1.zf a m] at z
          cases z
        · rw [q] at z
          cases z
        · rw [q] at z
          exact absurd (Option.some.inj z) (q2 _)
    · have q' : (upd (upd c'.Z y (.ins (He.ga X.K cls) dx (ns.zip us))) dx (.own y)) b = some o := q
      by_cases b2 : b = dx
      · subst b2
        rw [upd_same] at q'
        cases q'
        exact e4
      · rw [upd_ne b2] at q'
        by_cases b1 : b = y
        · subst b1
          rw [upd_same] at q'
          cases q'
          exact e3
        · rw [upd_ne b1] at q'
          exact zh b o q'
    · exact .ob ((upd_ne (Ne.symm ne)).trans upd_same) upd_same e5 (e6.mono sm2)
end
end FW

/-! FwQ: tables of the module, the head's facts about them; index. -/
namespace FW
open PySem PySem.Spec L2
open PyProof.Rows hiding St
/-! ### facts -/
def tupAt (K : PySem.W.Frag) (v : Value) (ns : List Int) : Bool := match v with
  | .ref T => (match K.lookup T with
    | some ⟨.type c, _, .seq its _, _⟩ => decide (c = "tuple") && decide (its.size ≤ sizeLine) && He.relAll (ns.map V.int) its.toList
    | _ => false)
  | _ => false
def tupB (K : PySem.W.Frag) (x : Str) (ns : List Int) : Bool := tupAt K (.ref (He.ga K x)) ns
theorem tupAt_ok {K : PySem.W.Frag} {v : Value} {ns : List Int} (h : tupAt K v ns = true) : ∃ T, v = .ref T ∧ ∀ H, SqT K H T (ns.map V.int) := by
  unfold tupAt at h
  split at h
  · rename_i T
    split at h
    · rename_i c od its n sl e
      rw [Bool.and_eq_true, Bool.and_eq_true] at h
      obtain ⟨⟨h1, h2⟩, h3⟩ := h
      have e1 : c = "tuple" := of_decide_eq_true h1
      subst e1
      exact ⟨T, rfl, fun H => .inr ⟨_, its, n, e, rfl, rfl, of_decide_eq_true h2, He.relAll_ok h3⟩⟩
    · cases h
  · cases h
theorem dpInts {K : PySem.W.Frag} {H : Hp} : ∀ ns : List Int, DpAll K H (ns.map V.int) (ns.map PyData.int)
  | [] => .nil
  | n :: ns => .cons (.int n) (dpInts ns)
theorem tupB_ok {K : PySem.W.Frag} {x : Str} {ns : List Int} (h : tupB K x ns = true) : ∀ Z, Dp K Z (.ref (He.ga K x)) (.tuple (ns.map PyData.int)) := fun Z => by
  obtain ⟨T, e, q⟩ := tupAt_ok h
  cases e
  exact .tup (q Z) (dpInts ns)
def tabAll (K : PySem.W.Frag) : List DictEntry → List (Int × List Int) → Bool
  | [], [] => true
  | e :: es, (i, ns) :: tab => (match e.key with | .int j _ => decide (j = i) | _ => false) && decide (e.hash = hashInt i) && tupAt K e.val ns && tabAll K es tab
  | _, _ => false
def tabB (K : PySem.W.Frag) (x : Str) (tab : List (Int × List Int)) : Bool := match K.lookup (He.ga K x) with
  | some ⟨.type c, none, .dict es _, osl⟩ => decide (c = "dict") && (osl.isEmpty && !(He.ga K x == sysModules)) && tabAll K es.toList tab
  | _ => false
/-- a dict of the module: numbers to tuples of numbers -/
structure KTab (K : PySem.W.Frag) (a : Addr) (es : Array DictEntry) (tab : List (Int × List Int)) : Prop where
  at_ : ∃ n, K.lookup a = some ⟨.type "dict", none, .dict es n, #[]⟩
  ns : (a == sysModules) = false
  al : tabAll K es.toList tab = true
theorem tabB_ok {K : PySem.W.Frag} {x : Str} {tab : List (Int × List Int)} (h : tabB K x tab = true) : ∃ es, KTab K (He.ga K x) es tab := by
  unfold tabB at h
  split at h
  · rename_i c es n osl e
    rw [Bool.and_eq_true, Bool.and_eq_true, Bool.and_eq_true] at h
    obtain ⟨⟨h1, h2, h3⟩, h4⟩ := h
    have e1 : c = "dict" := of_decide_eq_true h1
    have e2 : osl = #[] := Array.isEmpty_iff.mp h2
    subst e1 e2
    refine ⟨es, ⟨n, e⟩, ?_, h4⟩
    cases q : He.ga K x == sysModules with
    | false => rfl
    | true => rw [q] at h3; cases h3
  · cases h
theorem tabAll_keys {K : PySem.W.Frag} {P : Program} {w : World} : ∀ {es : List DictEntry} {tab : List (Int × List Int)}, tabAll K es tab = true → ∀ e ∈ es, ∃ k, (mixKind P w).is k e.key = true ∧ e.hash = (mixKind P w).hash k
  | [], [], _, e, m => by simp at m
  | e0 :: es, (i, ns) :: tab, h, e, m => by
    unfold tabAll at h
    rw [Bool.and_eq_true, Bool.and_eq_true, Bool.and_eq_true] at h
    obtain ⟨⟨⟨h1, h2⟩, h3⟩, h4⟩ := h
    rcases List.mem_cons.mp m with z | m
    · subst z
      split at h1
      · rename_i j t ek
        have e1 : j = i := of_decide_eq_true h1
        subst e1
        refine ⟨.inl j, ?_, of_decide_eq_true h2⟩
        rw [ek]
        exact keyIs_int j t
      · cases h1
    · exact tabAll_keys h4 e m
  | [], _ :: _, h, _, _ => by cases h
  | _ :: _, [], h, _, _ => by cases h
theorem tabAll_find {K : PySem.W.Frag} (i : Int) : ∀ {es : List DictEntry} {tab : List (Int × List Int)}, tabAll K es tab = true →
    (tab.lookup i = none → es.find? (fun e => keyIs (.inl i) e.key) = none) ∧ ∀ ns, tab.lookup i = some ns → ∃ e, es.find? (fun e => keyIs (.inl i) e.key) = some e ∧ tupAt K e.val ns = true
  | [], [], _ => ⟨fun _ => rfl, fun ns h => by cases h⟩
  | e0 :: es, (j, ms) :: tab, h => by
    unfold tabAll at h
    rw [Bool.and_eq_true, Bool.and_eq_true, Bool.and_eq_true] at h
    obtain ⟨⟨⟨h1, h2⟩, h3⟩, h4⟩ := h
    have ih := tabAll_find i h4
    split at h1
    · rename_i j' t ek
      have e1 : j' = j := of_decide_eq_true h1
      subst e1
      by_cases e : i = j'
      · subst e
        have k1 : keyIs (.inl i) e0.key = true := by
          rw [ek]
          exact keyIs_int i t
        rw [List.lookup_cons_self, List.find?_cons_of_pos (p := fun e : DictEntry => keyIs (.inl i) e.key) (a := e0) k1]
        exact ⟨fun h => (by cases h), fun ns h => ⟨e0, rfl, (by cases h; exact h3)⟩⟩
      · have k1 : ¬ keyIs (.inl i) e0.key = true := by
          rw [ek]
          simp [keyIs, Value.isInt]
          exact fun z => e z.symm
        have k2 : (i == j') = false := by simpa using e
        rw [List.lookup_cons, k2, List.find?_cons_of_neg (p := fun e : DictEntry => keyIs (.inl i) e.key) (a := e0) k1]
        exact ih
    · cases h1
  | [], _ :: _, h => by cases h
  | _ :: _, [], h => by cases h
section
variable {X : Cx} {W : WX} {pos p apos : Pos} {x : Str} {k d : Expr} {ty tx : TE}
def tKGet (es : Array DictEntry) (ty tx : TE) : TE := fun σ H Q => ty σ H fun y H1 => tx σ H1 fun z H2 => ∃ i, y = .int i ∧ ((es.toList.find? fun e => keyIs (.inl i) e.key) = none → Q z H2) ∧ ∀ e, (es.toList.find? fun e => keyIs (.inl i) e.key) = some e → ∃ v, RelV v e.val ∧ Q v H2
theorem pe_kget {a : Addr} {es : Array DictEntry} {tab : List (Int × List Int)} (T : KTab X.K a es tab) (hg : Gl X x) (hm : X.mg x = some (.ref a)) (hk : PE X k ty) (hx : PE X d tx) (hdb : (x == ("__debug__" : Str)) = false := by decide) (m : M2 X (.Name x p) "get" apos k d pos := by exact ⟨rfl, rfl, rfl, rfl⟩) :
    PE X (.Call (.Attribute (.Name x p) "get" apos) [k, d] [] pos) (tKGet es ty tx) := by
  have ho : PE X (.Name x p) (L2.tC (.ref a)) := pe_glob (v := .ref a) hg hm rfl hdb
  obtain ⟨n, hl⟩ := T.at_
  refine ⟨fun pins s σ H Q I h => ?_⟩
  refine wpAny_Call_method m.base m.few m.line PySem.F.plainAttrs_dict PySem.F.slot_dict_get PySem.F.type_dict_get (thn (ho.run pins s σ H (fun v H1 => v = .ref a ∧ H1 = H) I ⟨rfl, rfl⟩) fun u s1 ⟨x', H1, I1, rx, ex, eh⟩ => ?_)
  subst ex eh
  obtain rfl : u = Value.ref a := rx
  have at1 : ∀ {s : Shared} {σ' : L2.St} {H' : Hp}, Inv X pins σ' H' s → s.heap.get? a = some ⟨.type "dict", none, .dict es n, #[]⟩ := fun I => I.kIn _ _ hl
  refine ⟨⟨_, at1 I1, rfl⟩, fun b q => ?_, ?_⟩
  · cases q
    exact ⟨_, at1 I1, rfl⟩
  rw [m.trees]
  refine Calls.callWith_builtin rfl (Calls.evalArgs_plain (Calls.spliced_cons (thn (hk.run pins s1 σ H1 _ I1 h) fun iv s2 ⟨y, H2, I2, ry, q2⟩ =>
    Calls.spliced_cons (thn (hx.run pins s2 σ H2 _ I2 q2) fun fv s3 ⟨z, H3, I3, rz, i, ey, q3, q4⟩ => Calls.spliced_nil ?_))))
  subst ey
  refine call_meetsIn PySem.F.slot_dict_get ⟨_, at1 I3, rfl⟩ PySem.F.entry_dict_get (PySem.F.args_dict_get_3 _ _ _) (meets_dict_get_default (mixKind X.prog X.w) (k := .inl i) a (kV_is (k := .inl i) ry) T.ns fv) ⟨fun k => findBy keyIs es k, ⟨_, es, n, at1 I3, ⟨rfl, rfl, rfl⟩, rfl, fun e m => tabAll_keys T.al e (by simpa using m), fun k => rfl⟩, ?_⟩
  have ef : findBy keyIs es (.inl i) = (es.toList.find? fun e => keyIs (.inl i) e.key).map (·.val) := by
    unfold findBy
    rw [← Array.find?_toList]
  show EP X pins σ Q ((findBy keyIs es (.inl i)).getD fv) _
  rw [ef]
  cases eq : es.toList.find? fun e => keyIs (.inl i) e.key with
  | none => exact ⟨z, H3, I3.tok _, rz, q3 eq⟩
  | some e =>
    obtain ⟨v, rv, q5⟩ := q4 e eq
    exact ⟨v, H3, I3.tok _, rv, q5⟩
/-- LEADS.get(k, d) -/
def tabD (tab : List (Int × List Int)) (i : Int) (x : D) : D := match tab.lookup i with
  | some ns => .tuple (ns.map PyData.int)
  | none => x
def eKGet (tab : List (Int × List Int)) (fk fx : EM D) : EM D := eBind fk fun k => eBind fx fun x => match k with
  | .int i => eRet (tabD tab i x)
  | _ => fun _ => .bad
/-- a, b, .. = LEADS.get(k, d) -/
theorem ds_kget {a : Addr} {es : Array DictEntry} {tab : List (Int × List Int)} {ts : List Expr} {kk : Nat} {tp : Pos} {is : List Nat} {t : List D → List Slot → Option (List Slot)} {n : Nat} {fk fx : EM D} (hc : X.calm = true) (T : KTab X.K a es tab) (hm : X.mg x = some (.ref a)) (hk : DE X W k fk) (hx : DE X W d fx) (h : DGs X W ts is t) (hg : Gl X x := by rfl)
    (hdb : (x == ("__debug__" : Str)) = false := by decide) (m : M2 X (.Name x p) "get" apos k d pos := by exact ⟨rfl, rfl, rfl, rfl⟩)
    (hn : (assignEach ts X.env).length = n := by rfl) (hst : (assignEach ts X.env).findIdx? (·.1) = none := by rfl)
    {pos2 : Pos} (hs : swapsWithSole [.Tuple ts kk tp] (.Call (.Attribute (.Name x p) "get" apos) [k, d] [] pos) pos2.line X.env = pure false := by rfl) (hw : swappedStores [.Tuple ts kk tp] (.Call (.Attribute (.Name x p) "get" apos) [k, d] [] pos) X.env = pure none := by rfl)
    (h1 : (assignEach [.Tuple ts kk tp] X.env).map (·.2) = [assign (.Tuple ts kk tp) X.env] := by rfl) :
    DS X W (.Assign [.Tuple ts kk tp] (.Call (.Attribute (.Name x p) "get" apos) [k, d] [] pos) pos2) (sAsg (eKGet tab fk fx) (gT t n)) := by
  refine PS.wk (ps_asg (pe_kget T hg hm hk hx hdb m) (pg_tup hc h hn hst) hs hw h1) fun Q σ H q => ?_
  obtain ⟨S, Z, F, h0, q⟩ := q
  have q' : Go (gx X W) σ ⟨Z, H, F⟩ (eKGet tab fk fx S) (fun dd S' c' => GoS (gx X W) c' Q (match gT t n dd S' with | some S'' => .nx S'' | none => .bad)) := Go.toS q fun dd S1 c1 s1 h1 q1 => q1
  refine ⟨S, Z, F, h0, (Go.bind q').mono fun kd S1 c1 s1 h1 q1 y ry => ?_⟩
  refine ⟨S1, c1.Z, c1.F, h1, (Go.bind q1).mono fun xd S2 c2 s2 h2 q2 z rz => ?_⟩
  cases kd with
  | int i =>
    cases ry
    have q2 : ∀ c', Stp c2 c' → Holds X.K S2 σ c' → GoS (gx X W) c' Q (match gT t n (tabD tab i xd) S2 with | some S'' => .nx S'' | none => .bad) := q2
    have fin : ∀ (v : V) (dd : D) (xs : List V) (ds : List D) (T : Addr), v = .ref T → dd = .tuple ds → SqT X.K c2.H T xs → RpA X.K c2.Z xs ds → (∀ c', Stp c2 c' → Holds X.K S2 σ c' → GoS (gx X W) c' Q (match gT t n dd S2 with | some S'' => .nx S'' | none => .bad)) →
        ∃ a xs, v = V.ref a ∧ SqT X.K c2.H a xs ∧ xs.length = n ∧ ∃ S Z F ds S', Holds X.K S σ ⟨Z, c2.H, F⟩ ∧ RpA X.K Z xs ds ∧ t ds S = some S' ∧ ∀ σ' c', Stp ⟨Z, c2.H, F⟩ c' → Holds X.K S' σ' c' → Only is σ σ' → Q.nx σ' c'.H := by
      rintro v dd xs ds T rfl rfl sq r q3
      have q4 := q3 c2 (Stp.refl _) h2
      have eg : gT t n (.tuple ds) S2 = (if ds.length = n then t ds S2 else none) := rfl
      rw [eg] at q4
      by_cases hl : ds.length = n
      · rw [if_pos hl] at q4
        cases et : t ds S2 with
        | none => rw [et] at q4; exact q4.elim
        | some S'' =>
          rw [et] at q4
          exact ⟨T, xs, rfl, sq, by rw [r.length]; exact hl, S2, c2.Z, c2.F, ds, S'', h2, r, et, fun σ' c' st hh _ => q4 σ' c' st hh⟩
      · rw [if_neg hl] at q4
        exact q4.elim
    refine ⟨i, rfl, fun en => ?_, fun e0 en => ?_⟩
    · have el : tab.lookup i = none := by
        cases q : tab.lookup i with
        | none => rfl
        | some ns =>
          obtain ⟨e, e1, _⟩ := (tabAll_find i T.al).2 ns q
          rw [en] at e1
          cases e1
      have ed : tabD tab i xd = xd := by unfold tabD; rw [el]
      rw [ed] at q2
      have q3 := q2 c2 (Stp.refl _) h2
      have isT : ∃ ds, xd = .tuple ds := by
        cases xd with
        | tuple ds => exact ⟨ds, rfl⟩
        | _ => exact q3.elim
      obtain ⟨ds, rfl⟩ := isT
      obtain ⟨T2, xs, rfl, z1, r1⟩ := rz.tupS
      exact fin _ _ xs ds T2 rfl rfl (SqT.of (h2.zh _ _ z1)) r1 fun c' st hh => q2 c' st hh
    · cases q : tab.lookup i with
      | none =>
        rw [(tabAll_find i T.al).1 q] at en
        cases en
      | some ns =>
        obtain ⟨e, e1, e2⟩ := (tabAll_find i T.al).2 ns q
        rw [en] at e1
        cases e1
        have ed : tabD tab i xd = .tuple (ns.map PyData.int) := by unfold tabD; rw [q]
        rw [ed] at q2
        obtain ⟨T2, e3, sq⟩ := tupAt_ok e2
        exact ⟨.ref T2, e3, fin _ _ _ _ T2 rfl rfl (sq _) (RpA.ofI ns) fun c' st hh => q2 c' st hh⟩
  | _ => exact q2.elim
end
/-! ### the head, widened by facts of one's own -/
abbrev AlX : Type := He.AlD × Bool
def obsX (fa : List He.Fa) (fn : List He.DefD) (bs : List (PySem.W.Frag → Bool)) (K : PySem.W.Frag) : AlX := (He.obsD fa fn K, bs.all fun b => b K)
def obsXG (n : Nat) (fa : List He.Fa) (fn : List He.DefD) (bs : List (PySem.W.Frag → Bool)) (g : Addr → Option Obj) : AlX := obsX fa fn bs (He.frG g (He.asD g n))
def SaysX (fa : List He.Fa) (fn : List He.DefD) (bs : List (PySem.W.Frag → Bool)) (K : PySem.W.Frag) : Prop := obsX fa fn bs K = (He.valD fn, true)
def hookX (n : Nat) (fa : List He.Fa) (fn : List He.DefD) (bs : List (PySem.W.Frag → Bool)) : PySem.W.Hook where
  α := AlX
  obs := fun s => obsXG n fa fn bs s.heap.get?
  val := fun _ => (He.valD fn, true)
  says := fun _ h => ∃ K : PySem.W.Frag, K.In h ∧ SaysX fa fn bs K
  of := fun _ _ e => ⟨_, He.frG_in, e⟩
  keeps := fun _ _ _ ⟨K, hK, c⟩ k => ⟨K, PySem.W.Frag.In.keeps hK k, c⟩
theorem obsXG_eq {n : Nat} {fa : List He.Fa} {fn : List He.DefD} {bs : List (PySem.W.Frag → Bool)} {g : Addr → Option Obj} {s : Shared} (h : ∀ a, g a = s.heap.get? a) : obsXG n fa fn bs g = (hookX n fa fn bs).obs s := by
  have e : g = s.heap.get? := funext h
  rw [e] <;> rfl
theorem SaysX.d {fa : List He.Fa} {fn : List He.DefD} {bs : List (PySem.W.Frag → Bool)} {K : PySem.W.Frag} (c : SaysX fa fn bs K) : He.SaysD fa fn K := congrArg (fun z : AlX => z.1) c
theorem SaysX.b {fa : List He.Fa} {fn : List He.DefD} {bs : List (PySem.W.Frag → Bool)} {K : PySem.W.Frag} (c : SaysX fa fn bs K) (i : Nat) {b : PySem.W.Frag → Bool} (h : bs[i]? = some b := by rfl) : b K = true :=
  List.all_eq_true.mp (congrArg (fun z : AlX => z.2) c : bs.all (fun b => b K) = true) b (List.mem_of_getElem? h)
/-! ### index among numbers -/
section
variable {X : Cx} {W : WX} {pos p apos : Pos} {x : Str} {o k : Expr} {fo fk : EM D}
def idxI (ds : List D) (d : D) : Option D := match d with
  | .int n => (allI ds).bind fun ns => (ns.findIdx? fun m => decide (m = n)).map fun j => .int (j : Nat)
  | _ => none
def idxD (d k : D) : Option D := match d with
  | .list ds => idxI ds k
  | _ => none
theorem idx_rd {c : Cfg} {a : Addr} {ys : List V} {ds : List D} {y : V} {kd r : D} {Q : VK} (hs : SqL X.K c.H a ys) (rs : RpA X.K c.Z ys ds) (ry : Rp X.K c.Z y kd) (e : idxI ds kd = some r) (q : ∀ v, Rp X.K c.Z v r → Q v c.H) : rIndex X.K (.ref a) [y] c.H Q := by
  unfold idxI at e
  split at e
  · rename_i n
    cases ry
    obtain ⟨ns, e1, e2⟩ := Option.bind_eq_some_iff.mp e
    obtain ⟨j, e3, e4⟩ := Option.map_eq_some_iff.mp e2
    subst e4
    have ed := allI_ok e1
    subst ed
    have ey := rs.intsV
    subst ey
    obtain ⟨hj, h1, h2⟩ := List.findIdx?_eq_some_iff_getElem.mp e3
    have en : ns[j] = n := of_decide_eq_true h1
    refine ⟨a, ns.map V.int, .int n, j, .int n, rfl, rfl, hs, rfl, ?_, ?_, ?_, fun m z' hm hz => ?_, q _ (.int _)⟩
    · simp [flatV]
    · rw [List.getElem?_map, List.getElem?_eq_getElem hj, en]
      rfl
    · simp [eqV]
    · rw [List.getElem?_map, List.getElem?_eq_getElem (by omega)] at hz
      cases hz
      have := h2 m hm
      simpa [eqV] using this
  · cases e
def eIdx (fo fk : EM D) : EM D := eBind (eBind fo fun d => match d with | .list ds => eRet (.list ds) | _ => fun _ => .bad) fun d => eBind fk fun k => eOpt (idxD d k)
theorem de_index (ho : DE X W o fo) (hk : DE X W k fk)
    (hbase : attributeBase o "index" X.env (eval o X.env) = eval o X.env := by rfl)
    (hfew : ((backTo pos (starEach [k] X.env)).all (fun x => !x.1) && (backToKw pos (keywordEach [] X.env)).all (fun x => x.1.isSome)
      && decide ([k].length + ([] : List Keyword).length + (if ([] : List Keyword).isEmpty then 0 else 1) < 30)) = true := by rfl)
    (hline : (apos.endLine == pos.line) = true := by rfl) (hs : starEach [k] X.env = (false, eval k X.env) :: starEach [] X.env := by rfl) (hplain : (backTo pos (starEach [] X.env)).any (·.1) = false := by rfl) :
    DE X W (.Call (.Attribute o "index" apos) [k] [] pos) (eIdx fo fk) := by
  refine PE.wk (pe_bm PySem.F.plainAttrs_list PySem.F.slot_list_index PySem.F.type_list_index mt_index ho (pa_cons hk pa_nil hs) (hbase := hbase) (hfew := hfew) (hline := hline) (hs := hs) (hplain := hplain)) fun σ H Q q => ?_
  obtain ⟨S, Z, F, h, q⟩ := q
  have q' := Go.bind q
  refine ⟨S, Z, F, h, (Go.bind q').mono fun d S1 c1 s1 h1 q1 v rv => ?_⟩
  cases d with
  | list ds =>
    have q2 := q1 c1 (Stp.refl _) h1
    obtain ⟨a, ys, rfl, z1, r1⟩ := rv.lstI
    refine ⟨.inl ⟨rfl, ys, SqL.of (h1.zh _ _ z1)⟩, S1, c1.Z, c1.F, h1, (Go.bind q2).mono fun kd S2 c2 s2 h2 q3 y ry => ?_⟩
    obtain ⟨r, e, k⟩ := Go.opt q3
    have z2 := h2.zh _ _ (s2.z _ _ z1)
    exact idx_rd (SqL.of z2) (r1.mono s2.z) ry e fun v rv => k c2 (Stp.refl _) h2 v rv
  | _ => exact q1.elim
end
end FW

/-! FwR: bit_length, tuples of the module, more. -/
namespace FW
open PySem PySem.Spec L2
open PyProof.Rows hiding St
section
variable {X : Cx} {W : WX} {pos p apos : Pos} {x : Str} {o k e : Expr} {fo fk fe : EM D}
def bitsD : D → Option D
  | .int i => some (.int (Builtin.Int.intBits i : Nat))
  | _ => none
theorem de_bits (ho : DE X W o fo) (hbase : attributeBase o "bit_length" X.env (eval o X.env) = eval o X.env := by rfl) (hline : (apos.endLine == pos.line) = true := by rfl) : DE X W (.Call (.Attribute o "bit_length" apos) [] [] pos) (eUn bitsD fo) := by
  refine PE.wk (pe_bits ho hbase hline) fun σ H Q q => ?_
  obtain ⟨S, Z, F, h, q⟩ := q
  refine ⟨S, Z, F, h, (Go.bind q).mono fun d S1 c1 s1 h1 q1 v rv => ?_⟩
  obtain ⟨r, e1, k⟩ := Go.opt q1
  unfold bitsD at e1
  split at e1
  · cases e1
    cases rv
    exact ⟨_, rfl, k c1 (Stp.refl _) h1 _ (.int _)⟩
  · cases e1
/-- a tuple of the module to the left of == and != -/
theorem dt_eqKL (hu : X.A.units + 64 < cLine) {b : D} {px : Pos} (h : ∃ a, X.mg x = some (.ref a) ∧ ∀ Z, Dp X.K Z (.ref a) b) (he : DE X W e fe) (hg : Gl X x := by rfl) (hd : (x == ("__debug__" : Str)) = false := by decide) : DT X W (.Compare (.Name x px) [.Eq] [e] pos) (bOf (eBin eqD (eC b) fe)) := by
  obtain ⟨p, h1, h2⟩ := h
  refine PT.wk (pt_cmpR op_eqP (pe_glob (v := .ref p) hg h1 rfl hd) he (nomark _)) fun σ H Q q => ?_
  obtain ⟨S, Z, F, hh, q⟩ := bof_rd σ H Q q
  refine ⟨S, Z, F, hh, (Go.bind (show Go (gx X W) σ ⟨Z, H, F⟩ (eBind fe (fun c => eOpt (eqD b c)) S) _ from q)).mono fun a S1 c1 s1 h1' q1 v rv => ?_⟩
  obtain ⟨d, e1, k⟩ := Go.opt q1
  unfold eqD at e1
  split at e1
  · rename_i hs
    obtain ⟨n1, n2, hs⟩ := cmpOk_get hs
    cases e1
    exact ⟨b, a, h2 _, (Lo.z rv).dp h1'.zh n2, noDict_plain b n1, noDict_plain a n2, shal2_ok hs hu, k c1 (Stp.refl _) h1' _ (.bl _)⟩
  · cases e1
theorem dt_neKL (hu : X.A.units + 64 < cLine) {b : D} {px : Pos} (h : ∃ a, X.mg x = some (.ref a) ∧ ∀ Z, Dp X.K Z (.ref a) b) (he : DE X W e fe) (hg : Gl X x := by rfl) (hd : (x == ("__debug__" : Str)) = false := by decide) : DT X W (.Compare (.Name x px) [.NotEq] [e] pos) (bOf (eBin neD (eC b) fe)) := by
  obtain ⟨p, h1, h2⟩ := h
  refine PT.wk (pt_cmpR op_neP (pe_glob (v := .ref p) hg h1 rfl hd) he (nomark _)) fun σ H Q q => ?_
  obtain ⟨S, Z, F, hh, q⟩ := bof_rd σ H Q q
  refine ⟨S, Z, F, hh, (Go.bind (show Go (gx X W) σ ⟨Z, H, F⟩ (eBind fe (fun c => eOpt (neD b c)) S) _ from q)).mono fun a S1 c1 s1 h1' q1 v rv => ?_⟩
  obtain ⟨d, e1, k⟩ := Go.opt q1
  unfold neD at e1
  split at e1
  · rename_i hs
    obtain ⟨n1, n2, hs⟩ := cmpOk_get hs
    cases e1
    exact ⟨b, a, h2 _, (Lo.z rv).dp h1'.zh n2, noDict_plain b n1, noDict_plain a n2, shal2_ok hs hu, k c1 (Stp.refl _) h1' _ (.bl _)⟩
  · cases e1
/-- a tuple of numbers of the module -/
def KTup (X : Cx) (x : Str) (ns : List Int) : Prop := ∃ a, X.mg x = some (.ref a) ∧ ∀ Z, SqT X.K Z a (ns.map V.int)
/-- list(NAME) -/
theorem df_listK {ns : List Int} {px : Pos} (h : ∃ a, X.mg x = some (.ref a) ∧ ∀ Z, Dp X.K Z (.ref a) (.tuple (ns.map PyData.int))) (hm : X.mg "list" = none) (hg : Gl X x := by rfl) (hg2 : Gl X "list" := by rfl) (hd : (x == ("__debug__" : Str)) = false := by decide)
    (hs : starEach [.Name x px] X.env = (false, eval (.Name x px) X.env) :: starEach [] X.env := by rfl) (hpl : (backTo pos (starEach [] X.env)).any (·.1) = false := by rfl) :
    DF X W (.Call (.Name "list" p) [.Name x px] [] pos) (eRet (ns.map PyData.int)) := by
  obtain ⟨a, h1, h2⟩ := h
  refine PE.wk (pe_callTy call_list_of hg2 hm bt_list (pa_cons (pe_glob (v := .ref a) hg h1 rfl hd) pa_nil hs) (he := hs) (hpl := hpl)) fun σ H Q q => ?_
  obtain ⟨S, Z, F, hh, q⟩ := q
  have sq : SqT X.K H a (ns.map V.int) := by
    have d := h2 H
    cases d with
    | tup t1 t2 =>
      have e : ∀ {xs : List V} {ms : List Int}, DpAll X.K H xs (ms.map PyData.int) → xs = ms.map V.int := by
        intro xs ms t
        induction ms generalizing xs with
        | nil => cases t; rfl
        | cons m ms ih =>
          cases t with
          | cons u1 u2 =>
            cases u1
            rw [ih u2]
            rfl
      rw [e t2] at t1
      exact t1
  exact ⟨a, _, rfl, .inr sq, fun l hl => q _ (Stp.refl _) hh l _ hl (RpA.ofI ns)⟩
end
/-! ### sorted, numbers -/
def insI (n : Int) : List Int → List Int
  | [] => [n]
  | m :: ms => if n ≤ m then n :: m :: ms else m :: insI n ms
def sortI : List Int → List Int
  | [] => []
  | n :: ns => insI n (sortI ns)
theorem insI_perm (n : Int) : ∀ ms : List Int, (insI n ms).Perm (n :: ms)
  | [] => .refl _
  | m :: ms => by
    unfold insI
    split
    · exact .refl _
    · exact ((insI_perm n ms).cons m).trans (.swap _ _ _)
theorem sortI_perm : ∀ ns : List Int, (sortI ns).Perm ns
  | [] => .refl _
  | n :: ns => (insI_perm n _).trans ((sortI_perm ns).cons n)
theorem insI_sorted (n : Int) : ∀ {ms : List Int}, ms.Pairwise (· ≤ ·) → (insI n ms).Pairwise (· ≤ ·)
  | [], _ => List.pairwise_singleton _ _
  | m :: ms, h => by
    unfold insI
    split
    · rename_i hn
      refine List.pairwise_cons.mpr ⟨fun x hx => ?_, h⟩
      rcases List.mem_cons.mp hx with z | z
      · rw [z]; exact hn
      · exact Int.le_trans hn ((List.pairwise_cons.mp h).1 x z)
    · rename_i hn
      refine List.pairwise_cons.mpr ⟨fun x hx => ?_, insI_sorted n (List.pairwise_cons.mp h).2⟩
      rcases List.mem_cons.mp ((insI_perm n ms).mem_iff.mp hx) with z | z
      · rw [z]; omega
      · exact (List.pairwise_cons.mp h).1 x z
theorem sortI_sorted : ∀ ns : List Int, (sortI ns).Pairwise (· ≤ ·)
  | [] => List.Pairwise.nil
  | n :: ns => insI_sorted n (sortI_sorted ns)
theorem sorted_uniq : ∀ {as bs : List Int}, as.Perm bs → as.Pairwise (· ≤ ·) → bs.Pairwise (· ≤ ·) → as = bs
  | [], bs, p, _, _ => (List.nil_perm.mp p).symm
  | a :: as, [], p, _, _ => absurd p.length_eq (by simp)
  | a :: as, b :: bs, p, h1, h2 => by
    have e : a = b := by
      have m1 : a ∈ b :: bs := p.mem_iff.mp List.mem_cons_self
      have m2 : b ∈ a :: as := p.mem_iff.mpr List.mem_cons_self
      have l1 : b ≤ a := by
        rcases List.mem_cons.mp m1 with z | z
        · rw [z]; exact Int.le_refl _
        · exact (List.pairwise_cons.mp h2).1 a z
      have l2 : a ≤ b := by
        rcases List.mem_cons.mp m2 with z | z
        · rw [z]; exact Int.le_refl _
        · exact (List.pairwise_cons.mp h1).1 b z
      omega
    subst e
    rw [sorted_uniq (p.cons_inv) (List.pairwise_cons.mp h1).2 (List.pairwise_cons.mp h2).2]
section
variable {X : Cx} {W : WX}
def sortedD : List D → Option (List D)
  | [.list ds] => (allI ds).map fun ns => (sortI ns).map PyData.int
  | _ => none
theorem cf_sorted : CallF X W (.builtin "sorted") sortedD := by
  refine ⟨_, cr_sortedI, fun vs ds es S σ c Q e hh rs q => ?_⟩
  unfold sortedD at e
  split at e
  · rename_i es'
    obtain ⟨ns, e1, e2⟩ := Option.map_eq_some_iff.mp e
    subst e2
    have ed := allI_ok e1
    subst ed
    obtain ⟨v, rfl, r⟩ := rs.one
    obtain ⟨a, xs, rfl, a1, r1⟩ := r.lstI hh.zh
    have ex := r1.intsV
    subst ex
    refine ⟨a, ns, rfl, SqL.of a1, fun ms p p2 p3 hp => ?_⟩
    have em : ms = sortI ns := sorted_uniq (p2.trans (sortI_perm ns).symm) p3 (sortI_sorted ns)
    subst em
    exact q c p _ (Stp.refl _) hh hp (RpA.ofI _)
  · cases e
end
/-- the j-th statement of a class's body -/
def clsS (st : Stmt) (j : Nat) : Stmt := match st with
  | .ClassDef _ _ _ body _ _ _ _ _ _ _ => body.getD j (.Pass ⟨0, 0, 0, 0⟩)
  | _ => .Pass ⟨0, 0, 0, 0⟩
end FW

/-! FwP: the first statements of every law, the end of every law. -/
namespace FW
open PySem PySem.Spec L2
open PyProof.Rows hiding St
def absI (i : Int) : Int := if i < 0 then -i else i
def stRest : SM := sSeq (sIf (bOf (eBin eqD (eB lenD (aCons (eV 1) aNil)) (eC (.int 0)))) (sSeq (sSet 1 (eLst (aCons (eC (.int 0)) aNil))) sNx) sNx) (sSeq (sRet (eLst (aCons (eC (.int 0)) (aCons (eV 1) aNil)))) sNx)
theorem stRest_eq (ns : List Int) (h : ns.length ≤ 63) : ∃ ms S, DrawOk ms ∧ stRest [.un, .dat (.list (ns.map PyData.int)), .un] = .rt (.list [.int 0, .list (ms.map PyData.int)]) S := by
  have h16 : (63 : Nat) ≤ sizeLine := by decide
  cases ns with
  | nil => exact ⟨[0], _, by unfold DrawOk; decide, rfl⟩
  | cons n ns => exact ⟨n :: ns, _, by unfold DrawOk; simp, by
      have e : PyData.eqv (.int ((((n :: ns).map PyData.int).length : Nat) : Int)) (.int 0) = false := by
        simp [PyData.eqv]
        omega
      have e2 : eqD (.int ((((n :: ns).map PyData.int).length : Nat) : Int)) (.int 0) = some (.bool false) := by
        unfold eqD
        rw [e]
        rfl
      have e3 : (eB lenD (aCons (eV 1) aNil)) [.un, .dat (.list ((n :: ns).map PyData.int)), .un] = .ok (.int ((((n :: ns).map PyData.int).length : Nat) : Int)) [.un, .dat (.list ((n :: ns).map PyData.int)), .un] := rfl
      have e4 : (bOf (eBin eqD (eB lenD (aCons (eV 1) aNil)) (eC (.int 0)))) [.un, .dat (.list ((n :: ns).map PyData.int)), .un] = .ok false [.un, .dat (.list ((n :: ns).map PyData.int)), .un] := by
        unfold bOf eBin eBind
        simp only [e3, eC, eRet, e2, eOpt, asB]
      unfold stRest sSeq sIf sOf
      simp only [e4]
      rfl⟩
theorem cut63 (vs : List V) (hl : vs.length ≤ 63) : cutV vs none (some 63) = vs := by
  unfold cutV
  have e : HT.sIx vs.length vs.length (some 63) = vs.length := by
    unfold HT.sIx
    simp
    omega
  rw [e]
  have e0 : HT.sIx vs.length 0 none = 0 := rfl
  rw [e0, List.drop_zero, Nat.sub_zero, List.take_length]
/-- the last two statements of _law_state, from what the first leaves -/
theorem state_rest {X : Cx} {Q : VK} {H H' : Hp} {a Dl : Addr} {ns : List Int} {nx bk ct : St → Hp → Prop} (hlen : ns.length ≤ 63) (sm : Same H H') (hD0 : H Dl = none) (h2 : H' Dl = some (.lst (ns.map fun n => V.int (absI n))))
    (q : ∀ H' a b, Same H H' → H a = none → H b = none → a ≠ b → ∀ ms : List Int, DrawOk ms → H' a = some (.lst [.int 0, .ref b]) → H' b = some (.lst (ms.map V.int)) → Q (.ref a) H') :
    tS (gx X W0) stRest ⟨nx, Q, bk, ct⟩ [some (.ref a), some (.ref Dl), none] H' := by
  obtain ⟨ms, S', hms, er⟩ := stRest_eq (ns.map absI) (by simpa using hlen)
  have hz : Holds X.K [.un, .dat (.list ((ns.map absI).map PyData.int)), .un] [some (.ref a), some (.ref Dl), none] ⟨upd (fun _ => none) Dl (.lst (ns.map fun n => V.int (absI n))), H', []⟩ := by
    refine ⟨?_, List.nodup_nil, fun a m => by simp at m, fun b o e => ?_⟩
    · have q : HoldsL X.K ⟨upd (fun _ => none) Dl (.lst (ns.map fun n => V.int (absI n))), H', []⟩ [.un, .dat (.list ((ns.map absI).map PyData.int)), .un] [some (.ref a), some (.ref Dl), none] ([] ++ ([] ++ ([] ++ []))) := by
        have r := RpA.ofI (K := X.K) (Z := upd (fun _ => none) Dl (.lst (ns.map fun n => V.int (absI n)))) (ns.map absI)
        rw [List.map_map] at r
        have r1 : Rp X.K (upd (fun _ => none) Dl (.lst (ns.map fun n => V.int (absI n)))) (.ref Dl) (.list ((ns.map absI).map PyData.int)) := .lst upd_same r
        exact .cons rfl (.cons ⟨rfl, _, rfl, r1⟩ (.cons rfl .nil))
      exact q
    · have e' : upd (fun _ => none) Dl (.lst (ns.map fun n => V.int (absI n))) b = some o := e
      by_cases hb : b = Dl
      · subst hb
        rw [upd_same] at e'
        rw [← e']
        exact h2
      · rw [upd_ne hb] at e'
        cases e'
  refine ⟨_, _, _, hz, ?_⟩
  rw [er]
  intro σ' c' v st hh rv
  obtain ⟨va, xs, rfl, z1, r1⟩ := rv.lstI
  cases r1 with
  | cons r1 r2 =>
  cases r1
  obtain ⟨vb, rfl, r3⟩ := r2.one
  obtain ⟨b2, ys, rfl, z2, r4⟩ := r3.lstI
  have ey := r4.intsV
  subst ey
  have was : ∀ {p2 : Addr} {o : HO}, c'.Z p2 = some o → (∀ xs, o ≠ .tup xs) → p2 = Dl ∨ H' p2 = none := fun {p2 o} e hn => by
    rcases st.n p2 o e with z | z | z | ⟨xs, z⟩
    · by_cases hb : p2 = Dl
      · exact .inl hb
      · have z' : upd (fun _ => none) Dl (.lst (ns.map fun n => V.int (absI n))) p2 = some o := z
        rw [upd_ne hb] at z'
        cases z'
    · exact .inr z
    · simp at z
    · have z3 := st.k p2 _ z (by simp)
      have z4 := hh.zh _ _ e
      rw [z3] at z4
      cases z4
      exact absurd rfl (hn _)
  have hnone : ∀ {p2 : Addr} {o : HO}, c'.Z p2 = some o → (∀ xs, o ≠ .tup xs) → H p2 = none := fun {p2 o} e hn => by
    rcases was e hn with z | z
    · rw [z]; exact hD0
    · cases q : H p2 with
      | none => rfl
      | some o =>
        rw [sm _ _ q] at z
        cases z
  have smc : Same H c'.H := fun b o e => st.k b o (sm b o e) (by simp)
  refine q c'.H va b2 smc (hnone z1 fun _ e => by cases e) (hnone z2 fun _ e => by cases e) (fun e => ?_) ms hms (hh.zh _ _ z1) (hh.zh _ _ z2)
  subst e
  rw [z1] at z2
  cases ms with
  | nil => cases z2
  | cons m ms =>
    cases ms with
    | nil => cases z2
    | cons m2 ms => cases z2
/-- _law_state, all three statements -/
theorem state_all {X : Cx} {Q : VK} {H : Hp} {a : Addr} {ns : List Int} {nx bk ct : St → Hp → Prop} (hS : SqL X.K H a (ns.map V.int)) (hlen : ns.length ≤ 63)
    (q : ∀ H' a b, Same H H' → H a = none → H b = none → a ≠ b → ∀ ms : List Int, DrawOk ms → H' a = some (.lst [.int 0, .ref b]) → H' b = some (.lst (ms.map V.int)) → Q (.ref a) H') :
    tSeq (tAsg (tLc (iList X.K (L2.tSl (rSlL X.K) (tVar 0) tNoPart (tPart (tC (.int 63))))) (gName 2) tYes (tCB (fun xs H Q => ∃ i, xs = [.int i] ∧ Q (.int (if i < 0 then -i else i)) H) (tCons (tVar 2) tNil)) [2]) (gName 1)) (tS (gx X W0) stRest) ⟨nx, Q, bk, ct⟩ [some (.ref a), none, none] H := by
  have h16 : (63 : Nat) < sizeLine := by decide
  refine ⟨.ref a, rfl, 63, rfl, a, ns.map V.int, rfl, hS, fun p hp => ?_⟩
  rw [cut63 _ (by simpa using hlen)]
  refine ⟨p, rfl, ⟨_, .inl (.inl upd_same)⟩, fun Dl hD => ?_⟩
  have nDp : Dl ≠ p := fun e => by
    subst e
    rw [upd_same] at hD
    cases hD
  have hD0 : H Dl = none := by
    rw [upd_ne nDp] at hD
    exact hD
  have pD : p ≠ Dl := fun e => nDp e.symm
  refine lc_list (xs := ns.map V.int) (a := p) (fun i H' => Same H H' ∧ H' p = some (.lst (ns.map V.int)) ∧ H' Dl = some (.lst ((ns.take i).map fun n => V.int (absI n)))) ⟨?_, ?_, ?_⟩ (fun i H' _ hP => .inl (.inl hP.2.1)) (fun i x H' hx hP => ?_) (fun H' hP => ?_)
  · exact fun b o e => by
      have nb : b ≠ Dl := ne_of_none e hD0
      have nb2 : b ≠ p := ne_of_none e hp
      rw [upd_ne nb, upd_ne nb2]
      exact e
  · rw [upd_ne pD]
    exact upd_same
  · exact upd_same
  · obtain ⟨sm, h1, h2⟩ := hP
    rw [List.getElem?_map] at hx
    obtain ⟨n, hn, rfl⟩ := Option.map_eq_some_iff.mp hx
    have hi : i < ns.length := (List.getElem?_eq_some_iff.mp hn).1
    refine ⟨wipe_set (by simp), ?_⟩
    refine ⟨.int n, rfl, n, rfl, _, h2, by simp; omega, fun b o e => ?_, ?_, ?_⟩
    · rw [upd_ne (ne_of_none e hD0)]
      exact sm b o e
    · rw [upd_ne pD]
      exact h1
    · rw [upd_same, List.take_add_one, hn, List.map_append]
      rfl
  · obtain ⟨sm, h1, h2⟩ := hP
    rw [List.length_map, List.take_length] at h2
    exact state_rest (X := X) hlen sm hD0 h2 q
theorem unL {K : PySem.W.Frag} {c : Cfg} : ∀ n : Nat, HoldsL K c (List.replicate n Slot.un) (List.replicate n none) []
  | 0 => .nil
  | n + 1 => by
    have q : HoldsL K c (Slot.un :: List.replicate n Slot.un) (none :: List.replicate n none) ([] ++ []) := .cons rfl (unL n)
    rw [List.replicate_succ, List.replicate_succ]
    exact q
/-- a law behind its first statement -/
theorem law_rest {X : Cx} {Q : VK} {H : Hp} {s p b : Addr} {ms : List Int} {f : SM} {n : Nat} {nx bk ct : St → Hp → Prop} {S' : List Slot} (ne : p ≠ b) (ep : H p = some (.lst [.int 0, .ref b])) (eb : H b = some (.lst (ms.map V.int)))
    (er : f (.un :: .drw p 0 ms :: List.replicate n .un) = .rt (.bool true) S') (q : ∀ H', Q (.bl true) H') : tS (gx X W0) f ⟨nx, Q, bk, ct⟩ (some (.ref s) :: some (.ref p) :: List.replicate n none) H := by
  refine ⟨.un :: .drw p 0 ms :: List.replicate n .un, fun _ => none, [p, b], ⟨?_, by simp [ne], fun c m => rfl, fun c o e => by cases e⟩, ?_⟩
  · have h : HoldsL X.K ⟨fun _ => none, H, [p, b]⟩ (.un :: .drw p 0 ms :: List.replicate n .un) (some (.ref s) :: some (.ref p) :: List.replicate n none) ([] ++ ([p, b] ++ [])) := .cons rfl (.cons ⟨b, rfl, rfl, ep, eb⟩ (unL n))
    exact h
  · rw [er]
    intro σ' c' v st hh rv
    cases rv
    exact q c'.H
theorem fun_of {K : PySem.W.Frag} {x q : Str} {st : Stmt} {f : Addr} {fd : FuncData} (F : FunD K x q (defArgs st) (defBody st) (defScope st) [] [] f fd) : Fun K x q st f fd := by
  obtain ⟨oc, od, dV, kV, doc, pm, an, cdv, ct, osl, rfl, lk, hcd, hD, hK⟩ := F.ex
  rcases hD with ⟨_, rfl⟩ | ⟨e, _⟩
  · exact ⟨⟨oc, od, kV, doc, pm, an, cdv, ct, osl, rfl, lk, hcd⟩, F.kp⟩
  · exact absurd rfl e
end FW

/-! FwS: plain reasoning about what a def means: the way from what is wanted behind to what must hold ahead. -/
namespace FW
open PySem PySem.Spec L2
open PyProof.Rows hiding St
/-- the expression goes, and what it leaves is so -/
def Ep {α : Type} (m : EM α) (S : List Slot) (P : α → List Slot → Prop) : Prop := ∃ a S', m S = .ok a S' ∧ P a S'
/-- an end that is no exception -/
def okO : Out → Bool
  | .ex _ _ => false
  | .bad => false
  | _ => true
/-- the statement's end is so -/
def Wp (f : SM) (S : List Slot) (Q : Out → Prop) : Prop := okO (f S) = true ∧ Q (f S)
section
variable {α β : Type} {S : List Slot} {P : α → List Slot → Prop} {PD : D → List Slot → Prop} {PL : List D → List Slot → Prop} {PB : Bool → List Slot → Prop} {Q : Out → Prop}
theorem Ep.mono {m : EM α} {P' : α → List Slot → Prop} (h : Ep m S P) (i : ∀ a S', P a S' → P' a S') : Ep m S P' := by
  obtain ⟨a, S', e, p⟩ := h
  exact ⟨a, S', e, i a S' p⟩
theorem Ep_ret (a : α) : Ep (eRet a) S P = P a S := propext ⟨fun ⟨_, _, e, p⟩ => (by cases e; exact p), fun p => ⟨a, S, rfl, p⟩⟩
theorem Ep_opt (o : Option α) : Ep (eOpt o) S P = ∃ a, o = some a ∧ P a S := by
  cases o with
  | none => exact propext ⟨fun ⟨_, _, e, _⟩ => (nomatch (show (Er.bad : Er α) = _ from e)), fun ⟨_, e, _⟩ => (nomatch e)⟩
  | some a => exact propext ⟨fun ⟨_, _, e, p⟩ => (by cases e; exact ⟨a, rfl, p⟩), fun ⟨_, e, p⟩ => (by cases e; exact ⟨a, S, rfl, p⟩)⟩
theorem Ep_bind {m : EM α} {g : α → EM β} {PB : β → List Slot → Prop} : Ep (eBind m g) S PB = Ep m S fun a S1 => Ep (g a) S1 PB := by
  unfold Ep eBind
  cases e : m S with
  | ok a S' => exact propext ⟨fun h => ⟨a, S', rfl, h⟩, fun ⟨_, _, e2, h⟩ => (by cases e2; exact h)⟩
  | ex x S' => exact propext ⟨fun ⟨_, _, e2, _⟩ => (nomatch e2), fun ⟨_, _, e2, _⟩ => (nomatch e2)⟩
  | bad => exact propext ⟨fun ⟨_, _, e2, _⟩ => (nomatch e2), fun ⟨_, _, e2, _⟩ => (nomatch e2)⟩
theorem Ep_bad : Ep (fun _ => .bad) S P = False := propext ⟨fun ⟨_, _, e, _⟩ => (nomatch e), False.elim⟩
theorem Ep_ite {c : Prop} [Decidable c] {a b : EM α} : Ep (if c then a else b) S P = if c then Ep a S P else Ep b S P := by split <;> rfl
theorem Ep_C (d : D) : Ep (eC d) S PD = PD d S := Ep_ret d
theorem Ep_nil : Ep aNil S PL = PL [] S := Ep_ret []
theorem Ep_no {PO : Option Int → List Slot → Prop} : Ep oNo S PO = PO none S := Ep_ret none
theorem Ep_some {f : EM D} {PO : Option Int → List Slot → Prop} : Ep (oSome f) S PO = Ep f S fun d S1 => ∃ i, asI d = some i ∧ PO (some i) S1 := by
  unfold oSome
  simp only [Ep_bind, Ep_opt, Ep_ret]
theorem Ep_yes : Ep bYes S PB = PB true S := Ep_ret true
theorem Ep_V {i : Nat} {d : D} (h : S[i]? = some (.dat d)) : Ep (eV i) S PD = PD d S := by
  have e : eV i S = .ok d S := by unfold eV; rw [h]
  exact propext ⟨fun ⟨_, _, e2, p⟩ => (by rw [e] at e2; cases e2; exact p), fun p => ⟨d, S, e, p⟩⟩
theorem Ep_Vo {i : Nat} {ds : List D} (h : S[i]? = some (.own ds)) : Ep (eV i) S PD = PD (.list ds) (S.set i (.dat (.list ds))) := by
  have e : eV i S = .ok (.list ds) (S.set i (.dat (.list ds))) := by unfold eV; rw [h]
  exact propext ⟨fun ⟨_, _, e2, p⟩ => (by rw [e] at e2; cases e2; exact p), fun p => ⟨_, _, e, p⟩⟩
theorem Ep_Vd {i : Nat} {t : Bool} {es : List (D × D)} (h : S[i]? = some (.dic t es)) : Ep (eV i) S PD = PD (dictD t es) (S.set i (.dat (dictD t es))) := by
  have e : eV i S = .ok (dictD t es) (S.set i (.dat (dictD t es))) := by unfold eV; rw [h]
  exact propext ⟨fun ⟨_, _, e2, p⟩ => (by rw [e] at e2; cases e2; exact p), fun p => ⟨_, _, e, p⟩⟩
theorem Ep_VO {i : Nat} {d : D} (h : slotAt S i = some d) : Ep (eVO i) S PD = PD d S := by
  have e : eVO i S = .ok d S := by unfold eVO; rw [h]
  exact propext ⟨fun ⟨_, _, e2, p⟩ => (by rw [e] at e2; cases e2; exact p), fun p => ⟨_, _, e, p⟩⟩
theorem Ep_cons {f : EM D} {g : EM (List D)} : Ep (aCons f g) S PL = Ep f S fun d S1 => Ep g S1 fun ds S2 => PL (d :: ds) S2 := by
  unfold aCons
  simp only [Ep_bind, Ep_ret]
theorem Ep_bin {op : D → D → Option D} {fa fb : EM D} : Ep (eBin op fa fb) S PD = Ep fa S fun a S1 => Ep fb S1 fun b S2 => ∃ d, op a b = some d ∧ PD d S2 := by
  unfold eBin
  simp only [Ep_bind, Ep_opt]
theorem Ep_un {op : D → Option D} {fa : EM D} : Ep (eUn op fa) S PD = Ep fa S fun a S1 => ∃ d, op a = some d ∧ PD d S1 := by
  unfold eUn
  simp only [Ep_bind, Ep_opt]
theorem Ep_ix {fa fb : EM D} : Ep (eIx fa fb) S PD = Ep fa S fun a S1 => Ep fb S1 fun b S2 => ∃ d, ixD a b = some d ∧ PD d S2 := Ep_bin
theorem Ep_B {g : List D → Option D} {fa : EM (List D)} : Ep (eB g fa) S PD = Ep fa S fun a S1 => ∃ d, g a = some d ∧ PD d S1 := by
  unfold eB
  simp only [Ep_bind, Ep_opt]
theorem Ep_BF {g : List D → Option (List D)} {fa : EM (List D)} : Ep (eBF g fa) S PL = Ep fa S fun a S1 => ∃ d, g a = some d ∧ PL d S1 := by
  unfold eBF
  simp only [Ep_bind, Ep_opt]
theorem Ep_BO {g : List D → Option D} {i : Nat} {d0 : D} (h : slotAt S i = some d0) : Ep (eBO g i) S PD = ∃ d, g [d0] = some d ∧ PD d S := by
  have e : eBO g i S = eOpt (g [d0]) S := by unfold eBO; rw [h]
  unfold Ep
  rw [e]
  exact Ep_opt _
theorem Ep_tup {fa : EM (List D)} : Ep (eTup fa) S PD = Ep fa S fun ds S1 => small ds.length = true ∧ PD (.tuple ds) S1 := by
  unfold eTup
  simp only [Ep_bind, Ep_ite, Ep_ret, Ep_bad]
  congr 1
  funext ds S1
  split
  · rename_i h; simp [h]
  · rename_i h; simp [h]
theorem Ep_lst {fa : EM (List D)} : Ep (eLst fa) S PD = Ep fa S fun ds S1 => small ds.length = true ∧ PD (.list ds) S1 := by
  unfold eLst
  simp only [Ep_bind, Ep_ite, Ep_ret, Ep_bad]
  congr 1
  funext ds S1
  split
  · rename_i h; simp [h]
  · rename_i h; simp [h]
theorem Ep_lstF {fa : EM (List D)} : Ep (eBind fa fun ds => if small ds.length then eRet ds else fun _ => .bad) S PL = Ep fa S fun ds S1 => small ds.length = true ∧ PL ds S1 := by
  simp only [Ep_bind, Ep_ite, Ep_ret, Ep_bad]
  congr 1
  funext ds S1
  split
  · rename_i h; simp [h]
  · rename_i h; simp [h]
theorem Ep_bOf {f : EM D} : Ep (bOf f) S PB = Ep f S fun d S1 => ∃ b, asB d = some b ∧ PB b S1 := by
  unfold bOf
  simp only [Ep_bind, Ep_opt]
theorem Ep_and {f g : EM Bool} : Ep (bAnd f g) S PB = Ep f S fun b S1 => if b then Ep g S1 PB else PB false S1 := by
  unfold bAnd
  simp only [Ep_bind, Ep_ite, Ep_ret]
theorem Ep_or {f g : EM Bool} : Ep (bOr f g) S PB = Ep f S fun b S1 => if b then PB true S1 else Ep g S1 PB := by
  unfold bOr
  simp only [Ep_bind, Ep_ite, Ep_ret]
theorem Ep_not {f : EM Bool} : Ep (bNot f) S PB = Ep f S fun b S1 => PB (!b) S1 := by
  unfold bNot
  simp only [Ep_bind, Ep_ret]
theorem Ep_eAnd {f g : EM D} : Ep (eAnd f g) S PD = Ep f S fun d S1 => ∃ b, d = .bool b ∧ if b then Ep g S1 PD else PD (.bool false) S1 := by
  unfold eAnd
  rw [Ep_bind]
  congr 1
  funext d S1
  cases d with
  | bool b => cases b <;> simp [Ep_ret]
  | _ => simp [Ep_bad]
theorem Ep_eOr {f g : EM D} : Ep (eOr f g) S PD = Ep f S fun d S1 => ∃ b, d = .bool b ∧ if b then PD (.bool true) S1 else Ep g S1 PD := by
  unfold eOr
  rw [Ep_bind]
  congr 1
  funext d S1
  cases d with
  | bool b => cases b <;> simp [Ep_ret]
  | _ => simp [Ep_bad]
theorem Ep_eNot {f : EM D} : Ep (eNot f) S PD = Ep f S fun d S1 => ∃ b, d = .bool b ∧ PD (.bool (!b)) S1 := by
  unfold eNot
  rw [Ep_bind]
  congr 1
  funext d S1
  cases d with
  | bool b => simp [Ep_ret]
  | _ => simp [Ep_bad]
theorem Ep_eIf {t : EM Bool} {f g : EM D} : Ep (eIf t f g) S PD = Ep t S fun b S1 => if b then Ep f S1 PD else Ep g S1 PD := by
  unfold eIf
  simp only [Ep_bind, Ep_ite]
theorem Ep_sl {f : EM D} {lo hi : EM (Option Int)} : Ep (eSl f lo hi) S PD = Ep f S fun d S1 => Ep lo S1 fun l S2 => Ep hi S2 fun h S3 => ∃ r, slD d l h = some r ∧ PD r S3 := by
  unfold eSl
  simp only [Ep_bind, Ep_opt]
theorem Ep_fz {f : EM (List D)} : Ep (eFz f) S PD = Ep f S fun ds S1 => PD (.list ds) S1 := by
  unfold eFz
  simp only [Ep_bind, Ep_ret]
/-- what a def gives back -/
def Rp1 (r : Rs) (P : D → Prop) : Prop := ∃ d, r = .ok d ∧ P d
theorem Ep_rs {r : Rs} : Ep (rs0 r) S PD = Rp1 r fun d => PD d S := by
  cases r with
  | ok d => exact propext ⟨fun ⟨_, _, e, p⟩ => (by cases e; exact ⟨d, rfl, p⟩), fun ⟨_, e, p⟩ => (by cases e; exact ⟨d, S, rfl, p⟩)⟩
  | ex e => exact propext ⟨fun ⟨_, _, e, p⟩ => (nomatch e), fun ⟨_, e, p⟩ => (nomatch e)⟩
  | bad => exact propext ⟨fun ⟨_, _, e, p⟩ => (nomatch e), fun ⟨_, e, p⟩ => (nomatch e)⟩
theorem Ep_call {m : Nat} {g : List D → Rs} {fa : EM (List D)} : Ep (eCall m g fa) S PD = Ep fa S fun ds S1 => ds.length = m ∧ Rp1 (g ds) fun d => PD d S1 := by
  unfold eCall
  simp only [Ep_bind, Ep_ite, Ep_rs, Ep_bad]
  congr 1
  funext ds S1
  split
  · rename_i h; simp [h]
  · rename_i h; simp [h]
theorem Ep_meth {cls m : Str} {k : Nat} {g : List D → Rs} {fo : EM D} {fa : EM (List D)} : Ep (eMeth cls m k g fo fa) S PD = Ep fo S fun d S1 => isOb cls m d = true ∧ Ep fa S1 fun ds S2 => ds.length = k ∧ Rp1 (g (d :: ds)) fun r => PD r S2 := by
  unfold eMeth
  simp only [Ep_bind, Ep_ite, Ep_rs, Ep_bad]
  congr 1
  funext d S1
  split
  · rename_i h
    simp only [h, true_and]
    try simp only [Ep_bind, Ep_ite, Ep_rs, Ep_bad]
    congr 1
    funext ds S2
    split
    · rename_i h; simp [h]
    · rename_i h; simp [h]
  · rename_i h; simp [h, Ep_bad]
/-! ### statements -/
theorem Wp_nx : Wp sNx S Q = Q (.nx S) := propext ⟨fun h => h.2, fun h => ⟨rfl, h⟩⟩
theorem Wp_pass : Wp sPass S Q = Q (.nx S) := propext ⟨fun h => h.2, fun h => ⟨rfl, h⟩⟩
theorem Wp_brk : Wp sBrk S Q = Q (.bk S) := propext ⟨fun h => h.2, fun h => ⟨rfl, h⟩⟩
theorem Wp_cnt : Wp sCnt S Q = Q (.ct S) := propext ⟨fun h => h.2, fun h => ⟨rfl, h⟩⟩
theorem Wp_retN : Wp sRetN S Q = Q (.rt .none S) := propext ⟨fun h => h.2, fun h => ⟨rfl, h⟩⟩
/-- what comes behind a statement -/
def nxt (g : SM) (Q : Out → Prop) : Out → Prop
  | .nx S => Wp g S Q
  | o => Q o
theorem nxt_nx {g : SM} : nxt g Q (.nx S) = Wp g S Q := rfl
theorem nxt_rt {g : SM} {d : D} : nxt g Q (.rt d S) = Q (.rt d S) := rfl
theorem nxt_bk {g : SM} : nxt g Q (.bk S) = Q (.bk S) := rfl
theorem nxt_ct {g : SM} : nxt g Q (.ct S) = Q (.ct S) := rfl
theorem Wp_seq {f g : SM} : Wp (sSeq f g) S Q = Wp f S (nxt g Q) := by
  unfold Wp sSeq
  cases f S <;> simp [okO, nxt, Wp]
theorem Wp_of {m : EM α} {k : α → List Slot → Out} : Wp (sOf m k) S Q = Ep m S fun a S1 => okO (k a S1) = true ∧ Q (k a S1) := by
  unfold Wp sOf Ep
  cases e : m S with
  | ok a S1 => exact propext ⟨fun h => ⟨a, S1, rfl, h⟩, fun ⟨_, _, e2, h⟩ => (by cases e2; exact h)⟩
  | ex x S1 => exact propext ⟨fun h => absurd h.1 (by simp [okO]), fun ⟨_, _, e2, _⟩ => (nomatch e2)⟩
  | bad => exact propext ⟨fun h => absurd h.1 (by simp [okO]), fun ⟨_, _, e2, _⟩ => (nomatch e2)⟩
theorem Wp_asg {f : EM D} {g : Tg} : Wp (sAsg f g) S Q = Ep f S fun d S1 => ∃ S2, g d S1 = some S2 ∧ Q (.nx S2) := by
  unfold sAsg
  rw [Wp_of]
  congr 1
  funext d S1
  cases g d S1 <;> simp [okO]
theorem gN_some {i : Nat} {d : D} {S2 : List Slot} : (gN i d S = some S2) = (i < S.length ∧ S.set i (.dat d) = S2) := by
  unfold gN
  split
  · rename_i h; simp [h]
  · rename_i h; simp [h]
theorem Wp_set {i : Nat} {f : EM D} : Wp (sSet i f) S Q = Ep f S fun d S1 => i < S1.length ∧ Q (.nx (S1.set i (.dat d))) := by
  unfold sSet
  rw [Wp_asg]
  congr 1
  funext d S1
  simp only [gN_some]
  exact propext ⟨fun ⟨S2, ⟨h1, h2⟩, h3⟩ => ⟨h1, h2 ▸ h3⟩, fun ⟨h1, h3⟩ => ⟨_, ⟨h1, rfl⟩, h3⟩⟩
theorem Wp_own {i : Nat} {f : EM (List D)} : Wp (sOwn i f) S Q = Ep f S fun ds S1 => i < S1.length ∧ Q (.nx (S1.set i (.own ds))) := by
  unfold sOwn
  rw [Wp_of]
  congr 1
  funext d S1
  split
  · rename_i h; simp [h, okO]
  · rename_i h; simp [h, okO]
theorem Wp_dat {i : Nat} {f : EM (List D)} : Wp (sDat i f) S Q = Ep f S fun ds S1 => i < S1.length ∧ Q (.nx (S1.set i (.dat (.list ds)))) := by
  unfold sDat
  rw [Wp_of]
  congr 1
  funext d S1
  split
  · rename_i h; simp [h, okO]
  · rename_i h; simp [h, okO]
theorem Wp_dic {i : Nat} {t : Bool} {f : EM (List (D × D))} : Wp (sDic i t f) S Q = Ep f S fun es S1 => i < S1.length ∧ Q (.nx (S1.set i (.dic t es))) := by
  unfold sDic
  rw [Wp_of]
  congr 1
  funext d S1
  split
  · rename_i h; simp [h, okO]
  · rename_i h; simp [h, okO]
theorem Wp_ret {f : EM D} : Wp (sRet f) S Q = Ep f S fun d S1 => Q (.rt d S1) := by
  unfold sRet
  rw [Wp_of]
  simp [okO]
theorem Wp_expr {f : EM D} : Wp (sExpr f) S Q = Ep f S fun d S1 => Q (.nx S1) := by
  unfold sExpr
  rw [Wp_of]
  simp [okO]
theorem Wp_if {t : EM Bool} {f g : SM} : Wp (sIf t f g) S Q = Ep t S fun b S1 => if b then Wp f S1 Q else Wp g S1 Q := by
  unfold sIf
  rw [Wp_of]
  congr 1
  funext b S1
  cases b <;> rfl
theorem Wp_par {i j : Nat} {f : EM (List D)} : Wp (sPar i j f) S Q = Ep f S fun ds S1 => ∃ S2, gTwo i j ds S1 = some S2 ∧ Q (.nx S2) := by
  unfold sPar
  rw [Wp_of]
  congr 1
  funext d S1
  cases gTwo i j d S1 <;> simp [okO]
theorem Wp_par3 {i j l : Nat} {f : EM (List D)} : Wp (sPar3 i j l f) S Q = Ep f S fun ds S1 => ∃ S2, gThree i j l ds S1 = some S2 ∧ Q (.nx S2) := by
  unfold sPar3
  rw [Wp_of]
  congr 1
  funext d S1
  cases gThree i j l d S1 <;> simp [okO]
theorem Wp_aug {i : Nat} {g : D → D → Option D} {f : EM D} : Wp (sAug i g f) S Q = (match S[i]? with | some (.dat a) => Ep f S fun b S1 => ∃ d, g a b = some d ∧ Q (.nx (S1.set i (.dat d))) | _ => False) := by
  cases e : S[i]? with
  | none => unfold Wp sAug; simp [e, okO]
  | some s =>
    cases s with
    | dat a =>
      simp only
      have q := Wp_of (m := f) (k := fun b S' => match g a b with | some d => .nx (S'.set i (.dat d)) | none => .bad) (S := S) (Q := Q)
      have h : Wp (sAug i g f) S Q = Wp (sOf f fun b S' => match g a b with | some d => .nx (S'.set i (.dat d)) | none => .bad) S Q := by
        unfold Wp sAug
        simp only [e] <;> rfl
      rw [h, q]
      congr 1
      funext d S1
      cases g a d <;> simp [okO]
    | _ => unfold Wp sAug; simp [e, okO]
theorem Wp_for {src : EM (List D)} {g : Tg} {body : SM} : Wp (sFor src g body) S Q = Ep src S fun ds S1 => Wp (fun S => forL g body ds S) S1 Q := by
  unfold sFor
  rw [Wp_of]
  rfl
theorem Wp_while {n : Nat} {t : EM Bool} {body : SM} : Wp (sWhile n t body) S Q = Wp (whileL t body n) S Q := rfl
theorem Wp_setIx {i : Nat} {fe fk : EM D} : Wp (sSetIx i fe fk) S Q = Ep fe S fun d S1 => ∃ d0, slotAt S1 i = some d0 ∧ Ep fk S1 fun k S2 => ∃ s', ((S2[i]?).bind fun s => setAtD s k d) = some s' ∧ Q (.nx (S2.set i s')) := by
  unfold sSetIx
  rw [Wp_of]
  congr 1
  funext d S1
  cases e : slotAt S1 i with
  | none => simp [okO]
  | some d0 =>
    simp only [Option.some.injEq, exists_eq_left']
    have q := Wp_of (m := fk) (k := fun k S => match (S[i]?).bind fun s => setAtD s k d with | some s' => .nx (S.set i s') | none => .bad) (S := S1) (Q := Q)
    unfold Wp at q
    refine Eq.trans (show _ = _ from rfl) (q.trans ?_)
    congr 1
    funext k S2
    cases (S2[i]?).bind fun s => setAtD s k d <;> simp [okO]
theorem ok_ex {x : α} {S0 : List Slot} : (∃ a S', (Er.ok x S0 : Er α) = .ok a S' ∧ P a S') = P x S0 := propext ⟨fun ⟨_, _, e, p⟩ => (by cases e; exact p), fun p => ⟨_, _, rfl, p⟩⟩
theorem bad_ex : (∃ a S', (Er.bad : Er α) = .ok a S' ∧ P a S') = False := propext ⟨fun ⟨_, _, e, _⟩ => (nomatch e), False.elim⟩
theorem Ep_Vm {i : Nat} : Ep (eV i) S PD = (match S[i]? with | some (.dat d) => PD d S | some (.own ds) => PD (.list ds) (S.set i (.dat (.list ds))) | some (.dic t es) => PD (dictD t es) (S.set i (.dat (dictD t es))) | _ => False) := by
  unfold Ep eV
  cases S[i]? with
  | none => exact bad_ex
  | some s => cases s <;> first | exact ok_ex | exact bad_ex
theorem Ep_mut {i : Nat} {g : List D → List D → Option (D × List D)} {fa : EM (List D)} : Ep (eMut i g fa) S PD = (match S[i]? with | some (.own _) => Ep fa S fun as S1 => (match S1[i]? with | some (.own ds) => ∃ r, g ds as = some r ∧ PD r.1 (S1.set i (.own r.2)) | _ => False) | _ => False) := by
  cases e : S[i]? with
  | none => unfold Ep eMut; simp only [e]; exact bad_ex
  | some s =>
    cases s with
    | own ds0 =>
      simp only
      have h : Ep (eMut i g fa) S PD = Ep (eBind fa (fun as S => match S[i]? with
    | some (.own ds) => (match g ds as with
      | some (d, ds') => .ok d (S.set i (.own ds'))
      | none => .bad)
    | _ => .bad)) S PD := by
        unfold Ep eMut
        simp only [e] <;> rfl
      rw [h, Ep_bind]
      congr 1
      funext as S1
      unfold Ep
      cases e1 : S1[i]? with
      | none => simp only [e1]; exact bad_ex
      | some s =>
        cases s with
        | own ds =>
          cases e2 : g ds as with
          | none => simp only [e1, e2]; rw [bad_ex]; simp
          | some r =>
            obtain ⟨d, ds'⟩ := r
            simp only [e1, e2]
            rw [ok_ex]
            simp
        | _ => simp only [e1]; exact bad_ex
    | _ => unfold Ep eMut; simp only [e]; exact bad_ex
theorem R_run {n : Nat} {b : SM} {ds : List D} {P : D → Prop} (h : Wp b (startS ds n) fun o => match o with | .rt d _ => P d | .nx _ => P .none | _ => False) : Rp1 (runF n b ds) P := by
  unfold Wp at h
  unfold runF outR Rp1
  cases e : b (startS ds n) with
  | rt d S => rw [e] at h; exact ⟨d, rfl, h.2⟩
  | nx S => rw [e] at h; exact ⟨_, rfl, h.2⟩
  | bk S => rw [e] at h; exact h.2.elim
  | ct S => rw [e] at h; exact h.2.elim
  | ex x S => rw [e] at h; exact h.2.elim
  | bad => rw [e] at h; exact h.2.elim
theorem Rp1.eq {r : Rs} {d : D} (h : Rp1 r fun x => x = d) : r = .ok d := by
  obtain ⟨x, e, rfl⟩ := h
  exact e
theorem Rp1.of {r : Rs} {d : D} {P : D → Prop} (e : r = .ok d) (p : P d) : Rp1 r P := ⟨d, e, p⟩
/-! ### loops -/
theorem for_nx {g : Tg} {body : SM} {α : Type} (st : α → List Slot) (step : α → D → α) (I : α → Prop) : ∀ (ds : List D) (s : α), I s → (∀ d ∈ ds, ∀ s, I s → I (step s d) ∧ ∃ S1, g d (st s) = some S1 ∧ Wp body S1 fun o => o = .nx (st (step s d)) ∨ o = .ct (st (step s d))) →
    forL g body ds (st s) = .nx (st (ds.foldl step s)) ∧ I (ds.foldl step s)
  | [], s, hs, _ => ⟨rfl, hs⟩
  | d :: ds, s, hs, h => by
    obtain ⟨h1, S1, e1, e2⟩ := h d List.mem_cons_self s hs
    unfold forL
    rw [e1]
    have ih := for_nx st step I ds (step s d) h1 fun d' m => h d' (List.mem_cons_of_mem _ m)
    rcases e2.2 with e2 | e2
    · simp only [e2]
      exact ih
    · simp only [e2]
      exact ih
theorem W_forL {g : Tg} {body : SM} {α : Type} {ds : List D} (st : α → List Slot) (step : α → D → α) (I : α → Prop) (s : α) (hs : I s) (h : ∀ d ∈ ds, ∀ s, I s → I (step s d) ∧ ∃ S1, g d (st s) = some S1 ∧ Wp body S1 fun o => o = .nx (st (step s d)) ∨ o = .ct (st (step s d)))
    (q : I (ds.foldl step s) → Q (.nx (st (ds.foldl step s)))) : Wp (fun S => forL g body ds S) (st s) Q := by
  obtain ⟨e, i⟩ := for_nx st step I ds s hs h
  unfold Wp
  simp only [e]
  exact ⟨rfl, q i⟩
theorem for_ix {g : Tg} {body : SM} {α : Type} (st : α → List Slot) (step : α → D → α) (I : Nat → α → Prop) (ds0 : List D) : ∀ (ds : List D) (i : Nat) (s : α), ds = ds0.drop i → I i s → (∀ i d, ds0[i]? = some d → ∀ s, I i s → I (i + 1) (step s d) ∧ ∃ S1, g d (st s) = some S1 ∧ Wp body S1 fun o => o = .nx (st (step s d)) ∨ o = .ct (st (step s d))) →
    forL g body ds (st s) = .nx (st (ds.foldl step s)) ∧ I (i + ds.length) (ds.foldl step s)
  | [], i, s, _, hs, _ => ⟨rfl, hs⟩
  | d :: ds, i, s, ed, hs, h => by
    have e0 : ds0[i]? = some d := by
      have := congrArg List.head? ed
      simpa [List.head?_drop] using this.symm
    have e3 : ds = ds0.drop (i + 1) := by
      have := congrArg List.tail ed
      simpa [List.tail_drop] using this
    obtain ⟨h1, S1, e1, e2⟩ := h i d e0 s hs
    unfold forL
    rw [e1]
    have ih := for_ix st step I ds0 ds (i + 1) (step s d) e3 h1 h
    rw [show i + 1 + ds.length = i + (d :: ds).length by simp; omega] at ih
    rcases e2.2 with e2 | e2
    · simp only [e2]
      exact ih
    · simp only [e2]
      exact ih
/-- a loop, with the number of turns so far -/
theorem W_forI {g : Tg} {body : SM} {α : Type} {ds : List D} (st : α → List Slot) (step : α → D → α) (I : Nat → α → Prop) (s : α) (hs : I 0 s) (h : ∀ i d, ds[i]? = some d → ∀ s, I i s → I (i + 1) (step s d) ∧ ∃ S1, g d (st s) = some S1 ∧ Wp body S1 fun o => o = .nx (st (step s d)) ∨ o = .ct (st (step s d)))
    (q : I ds.length (ds.foldl step s) → Q (.nx (st (ds.foldl step s)))) : Wp (fun S => forL g body ds S) (st s) Q := by
  obtain ⟨e, i⟩ := for_ix st step I ds ds 0 s rfl hs h
  rw [Nat.zero_add] at i
  unfold Wp
  simp only [e]
  exact ⟨rfl, q i⟩
/-- a block that keeps what stands beside it -/
theorem comp_map {own : List Nat} {g : Tg} {t : EM Bool} {e : EM D} (base : List Slot) (p : D → Bool) (f : D → D) : ∀ (ds : List D), (∀ d ∈ ds, ∃ S1, g d base = some S1 ∧ wipeS own S1 = base ∧ Ep t S1 fun b S2 => b = p d ∧ S2 = S1 ∧ (b = true → Ep e S1 fun y S3 => y = f d ∧ S3 = S1)) →
    compL own g t e ds base = .ok ((ds.filter p).map f) base
  | [], _ => rfl
  | d :: ds, h => by
    obtain ⟨S1, e1, e3, b, S2, e2, rfl, rfl, e4⟩ := h d List.mem_cons_self
    have ih := comp_map base p f ds fun d' m => h d' (List.mem_cons_of_mem _ m)
    unfold compL
    rw [e1]
    simp only
    rw [e2]
    cases hp : p d with
    | true =>
      obtain ⟨y, S3, e5, rfl, rfl⟩ := e4 hp
      simp only
      rw [e5]
      simp only
      rw [e3, ih, List.filter_cons_of_pos hp]
      rfl
    | false =>
      simp only
      rw [e3, ih, List.filter_cons_of_neg (by rw [hp]; simp)]
theorem E_comp {own : List Nat} {src : EM (List D)} {g : Tg} {t : EM Bool} {e : EM D} (p : D → Bool) (f : D → D) (h : Ep src S fun ds S1 => plainAt own S1 = true ∧ small ds.length = true ∧ restS own S1 (wipeS own S1) = S1 ∧
      (∀ d ∈ ds, ∃ S2, g d (wipeS own S1) = some S2 ∧ wipeS own S2 = wipeS own S1 ∧ Ep t S2 fun b S3 => b = p d ∧ S3 = S2 ∧ (b = true → Ep e S2 fun y S4 => y = f d ∧ S4 = S2)) ∧ PL ((ds.filter p).map f) S1) : Ep (eComp own src g t e) S PL := by
  obtain ⟨ds, S1, e1, hp, hs, hr, hb, q⟩ := h
  refine ⟨_, S1, ?_, q⟩
  unfold eComp
  unfold eBind
  rw [e1]
  simp only [hp, hs, Bool.and_self, if_true]
  rw [comp_map (wipeS own S1) p f ds hb]
  simp only [hr]
theorem wipe1 (v : Nat) (S : List Slot) : wipeS [v] S = S.set v .un := rfl
theorem rest1 {v : Nat} {S : List Slot} (hv : v < S.length) : restS [v] S (S.set v .un) = S := by
  unfold restS
  rw [List.getElem?_eq_getElem hv]
  show (S.set v .un).set v S[v] = S
  rw [List.set_set, List.set_getElem_self]
/-- [e for v in src if t] where nothing but v changes -/
theorem E_sel {v : Nat} {src : EM (List D)} {t : EM Bool} {e : EM D} (ds : List D) (p : D → Bool) (f : D → D) (h0 : Ep src S fun ds' S1 => ds' = ds ∧ S1 = S) (hv : v < S.length) (pl : plainAt [v] S = true) (hs : ds.length ≤ 1000000)
    (ht : ∀ d ∈ ds, Ep t (S.set v (.dat d)) fun b S3 => b = p d ∧ S3 = S.set v (.dat d)) (he : ∀ d ∈ ds, p d = true → Ep e (S.set v (.dat d)) fun y S3 => y = f d ∧ S3 = S.set v (.dat d)) (q : PL ((ds.filter p).map f) S) : Ep (eComp [v] src (gN v) t e) S PL := by
  refine E_comp p f (h0.mono fun ds' S1 h => ?_)
  obtain ⟨rfl, rfl⟩ := h
  refine ⟨pl, ?_, by rw [wipe1]; exact rest1 hv, fun d hd => ⟨S1.set v (.dat d), ?_, ?_, ?_⟩, q⟩
  · have : (1000000 : Nat) ≤ sizeLine := by decide
    unfold small
    simp
    omega
  · rw [wipe1]
    unfold gN
    rw [if_pos (by rw [List.length_set]; exact hv), List.set_set]
  · rw [wipe1, wipe1, List.set_set]
  · refine (ht d hd).mono fun b S3 h => ?_
    obtain ⟨rfl, rfl⟩ := h
    exact ⟨rfl, rfl, fun hb => he d hd hb⟩
/-- [e for v in src] -/
theorem E_map {v : Nat} {src : EM (List D)} {e : EM D} (ds : List D) (f : D → D) (h0 : Ep src S fun ds' S1 => ds' = ds ∧ S1 = S) (hv : v < S.length) (pl : plainAt [v] S = true) (hs : ds.length ≤ 1000000)
    (he : ∀ d ∈ ds, Ep e (S.set v (.dat d)) fun y S3 => y = f d ∧ S3 = S.set v (.dat d)) (q : PL (ds.map f) S) : Ep (eComp [v] src (gN v) bYes e) S PL := by
  refine E_sel ds (fun _ => true) f h0 hv pl hs (fun d _ => ?_) (fun d hd _ => he d hd) ?_
  · rw [Ep_yes]
    exact ⟨rfl, rfl⟩
  · rw [List.filter_eq_self.mpr fun _ _ => rfl]
    exact q
/-- .. over a range -/
theorem E_mapR {v : Nat} {src : EM (List D)} {e : EM D} (n : Nat) (f : Nat → D) (h0 : Ep src S fun ds' S1 => ds' = (List.range n).map (fun i => PyData.int (i : Nat)) ∧ S1 = S) (hv : v < S.length) (pl : plainAt [v] S = true) (hs : n ≤ 1000000)
    (he : ∀ i, i < n → Ep e (S.set v (.dat (.int (i : Nat)))) fun y S3 => y = f i ∧ S3 = S.set v (.dat (.int (i : Nat)))) (q : PL ((List.range n).map f) S) : Ep (eComp [v] src (gN v) bYes e) S PL := by
  refine E_map _ (fun d => match d with | .int i => f i.toNat | _ => .none) h0 hv pl (by simpa using hs) (fun d hd => ?_) ?_
  · obtain ⟨i, hi, rfl⟩ := List.mem_map.mp hd
    simpa using he i (List.mem_range.mp hi)
  · rw [List.map_map]
    exact q
theorem E_selR {v : Nat} {src : EM (List D)} {t : EM Bool} {e : EM D} (n : Nat) (p : Nat → Bool) (f : Nat → D) (h0 : Ep src S fun ds' S1 => ds' = (List.range n).map (fun i => PyData.int (i : Nat)) ∧ S1 = S) (hv : v < S.length) (pl : plainAt [v] S = true) (hs : n ≤ 1000000)
    (ht : ∀ i, i < n → Ep t (S.set v (.dat (.int (i : Nat)))) fun b S3 => b = p i ∧ S3 = S.set v (.dat (.int (i : Nat))))
    (he : ∀ i, i < n → p i = true → Ep e (S.set v (.dat (.int (i : Nat)))) fun y S3 => y = f i ∧ S3 = S.set v (.dat (.int (i : Nat)))) (q : PL (((List.range n).filter p).map f) S) : Ep (eComp [v] src (gN v) t e) S PL := by
  refine E_sel _ (fun d => match d with | .int i => p i.toNat | _ => false) (fun d => match d with | .int i => f i.toNat | _ => .none) h0 hv pl (by simpa using hs) (fun d hd => ?_) (fun d hd => ?_) ?_
  · obtain ⟨i, hi, rfl⟩ := List.mem_map.mp hd
    simpa using ht i (List.mem_range.mp hi)
  · obtain ⟨i, hi, rfl⟩ := List.mem_map.mp hd
    simpa using he i (List.mem_range.mp hi)
  · rw [List.filter_map, List.map_map]
    exact q
theorem Ep_rng1 {f : EM (List D)} : Ep (iR1 f) S PL = Ep f S fun ds S1 => ∃ r, rng1 ds = some r ∧ PL r S1 := by
  unfold iR1
  simp only [Ep_bind, Ep_opt]
theorem Ep_rng2 {f : EM (List D)} : Ep (iR2 f) S PL = Ep f S fun ds S1 => ∃ r, rng2 ds = some r ∧ PL r S1 := by
  unfold iR2
  simp only [Ep_bind, Ep_opt]
theorem Ep_rng3 {f : EM (List D)} : Ep (iR3 f) S PL = Ep f S fun ds S1 => ∃ r, rng3 ds = some r ∧ PL r S1 := by
  unfold iR3
  simp only [Ep_bind, Ep_opt]
theorem Ep_iA {f : EM D} : Ep (iA f) S PL = Ep f S fun d S1 => ∃ r, walkA d = some r ∧ PL r S1 := by
  unfold iA
  simp only [Ep_bind, Ep_opt]
end
theorem modD_ii {i j : Int} (h : 0 < j) : modD (.int i) (.int j) = some (.int (i % j)) := by simp [modD, intOp, h]
theorem fdivD_ii {i j : Int} (h : 0 < j) (h2 : j < 2 ^ 200) : fdivD (.int i) (.int j) = some (.int (i / j)) := by
  have e : fdivD (.int i) (.int j) = (if 0 < j ∧ j < 2 ^ 200 then some (i / j) else none).map PyData.int := rfl
  rw [e, if_pos ⟨h, h2⟩]
  rfl
theorem addD_ii {i j : Int} : addD (.int i) (.int j) = some (.int (i + j)) := rfl
theorem subD_ii {i j : Int} : subD (.int i) (.int j) = some (.int (i - j)) := rfl
theorem mulD_ii {i j : Int} (h : -(2 ^ 64) < i ∧ i < 2 ^ 64 ∨ -(2 ^ 64) < j ∧ j < 2 ^ 64) : mulD (.int i) (.int j) = some (.int (i * j)) := by
  have e : mulD (.int i) (.int j) = (if (-(2 ^ 64) < i ∧ i < 2 ^ 64) ∨ (-(2 ^ 64) < j ∧ j < 2 ^ 64) then some (.int (i * j)) else none) := rfl
  rw [e, if_pos h]
theorem appD_one {ds : List D} {a : D} (h : ds.length < sizeLine) : appD ds [a] = some (.none, ds ++ [a]) := by simp [appD, h]
theorem small_of {n : Nat} (h : n ≤ 1000000) : small n = true := by
  have : (1000000 : Nat) ≤ sizeLine := by decide
  unfold small
  simp
  omega
theorem size_of {n : Nat} (h : n < 1000000) : n < sizeLine := by
  have : (1000000 : Nat) ≤ sizeLine := by decide
  omega
theorem ltD_ii {i j : Int} : ltD (.int i) (.int j) = some (.bool (decide (i < j))) := rfl
theorem leD_ii {i j : Int} : leD (.int i) (.int j) = some (.bool (decide (i ≤ j))) := rfl
theorem gtD_ii {i j : Int} : gtD (.int i) (.int j) = some (.bool (decide (j < i))) := rfl
theorem geD_ii {i j : Int} : geD (.int i) (.int j) = some (.bool (decide (j ≤ i))) := rfl
theorem eqD_ii {i j : Int} : eqD (.int i) (.int j) = some (.bool (decide (i = j))) := by
  have e : eqD (.int i) (.int j) = some (.bool (PyData.eqv (.int i) (.int j))) := rfl
  rw [e]
  congr 2
theorem neD_ii {i j : Int} : neD (.int i) (.int j) = some (.bool (!decide (i = j))) := by
  have e : neD (.int i) (.int j) = some (.bool (!PyData.eqv (.int i) (.int j))) := rfl
  rw [e]
  congr 2
theorem lenD_l {ds : List D} : lenD [.list ds] = some (.int ds.length) := rfl
theorem lenD_t {ds : List D} : lenD [.tuple ds] = some (.int ds.length) := rfl
theorem ixD_l {ds : List D} {i : Nat} {d : D} (h : ds[i]? = some d) : ixD (.list ds) (.int i) = some d := atI_nat h
theorem ixD_t {ds : List D} {i : Nat} {d : D} (h : ds[i]? = some d) : ixD (.tuple ds) (.int i) = some d := atI_nat h
theorem rng1_ok {n : Nat} (h : n < 2 ^ 62) : rng1 [.int n] = some ((List.range n).map fun i => .int (i : Nat)) := by
  have e : rng1 [.int n] = (if big62 n then some (intsD 0 (n : Int).toNat) else none) := rfl
  have b : big62 n = true := by
    unfold big62
    simp
    omega
  rw [e, if_pos b]
  unfold intsD
  simp
end FW

/-! FwU: plain reasoning about instances. -/
namespace FW
open PySem PySem.Spec L2
open PyProof.Rows hiding St
section
variable {S : List Slot} {PD : D → List Slot → Prop} {Q : Out → Prop}
theorem W_fld {i : Nat} {cls f : Str} {fe : EM D} (h : Ep fe S fun d S1 => ∃ a dx ns ds, S1[i]? = some (.obj a dx cls ns ds) ∧ ns.contains f = false ∧ ns.length < 1000 ∧ Q (.nx (S1.set i (.obj a dx cls (ns ++ [f]) (ds ++ [d]))))) : Wp (sFldSet i cls f fe) S Q := by
  unfold sFldSet
  rw [Wp_of]
  refine h.mono fun d S1 q => ?_
  obtain ⟨a, dx, ns, ds, e, h1, h2, q⟩ := q
  have hc : clsAt cls S1 i = true := by unfold clsAt; rw [e]; simp
  have hp : (S1[i]?).bind (putO f d) = some (.obj a dx cls (ns ++ [f]) (ds ++ [d])) := by
    rw [e]
    have : ¬ 1000 ≤ ns.length := by omega
    simp only [Option.bind_some, putO, h1, this, decide_false, Bool.or_self, Bool.false_eq_true, if_false]
  rw [if_pos hc, hp]
  exact ⟨rfl, q⟩
theorem g_fld {i : Nat} {cls f : Str} {d : D} {a dx : Addr} {ns : List Str} {ds : List D} (e : S[i]? = some (.obj a dx cls ns ds)) (h1 : ns.contains f = false) (h2 : ns.length < 1000) : gFld i cls f d S = some (S.set i (.obj a dx cls (ns ++ [f]) (ds ++ [d]))) := by
  have hc : clsAt cls S i = true := by unfold clsAt; rw [e]; simp
  have hp : (S[i]?).bind (putO f d) = some (.obj a dx cls (ns ++ [f]) (ds ++ [d])) := by
    rw [e]
    have : ¬ 1000 ≤ ns.length := by omega
    simp only [Option.bind_some, putO, h1, this, decide_false, Bool.or_self, Bool.false_eq_true, if_false]
  unfold gFld
  rw [if_pos hc, hp]
  rfl
theorem E_methO {i : Nat} {cls m : Str} {k : Nat} {g : List D → Rs} {fa : EM (List D)} {a dx : Addr} {ns : List Str} {ds : List D} (e : S[i]? = some (.obj a dx cls ns ds)) (h1 : ns.contains m = false)
    (h : Ep fa S fun as S1 => S1[i]? = some (.obj a dx cls ns ds) ∧ as.length = k ∧ ∃ n, g (obD cls ns ds :: as) = .ok (.int n) ∧ PD (.int n) S1) : Ep (eMethO i cls m k g fa) S PD := by
  have e0 : eMethO i cls m k g fa S = eBind fa (fun as S => match S[i]? with
    | some (.obj _ _ c ns ds) => if c = cls ∧ as.length = k then (match g (obD c ns ds :: as) with
      | .ok (.int n) => .ok (.int n) S
      | _ => .bad) else .bad
    | _ => .bad) S := by
    unfold eMethO
    rw [e]
    simp only [h1, and_self, if_true] <;> rfl
  have e1 : Ep (eBind fa (fun as S => match S[i]? with
    | some (.obj _ _ c ns ds) => if c = cls ∧ as.length = k then (match g (obD c ns ds :: as) with
      | .ok (.int n) => .ok (.int n) S
      | _ => .bad) else .bad
    | _ => .bad)) S PD := by
    rw [Ep_bind]
    refine h.mono fun as S1 q => ?_
    obtain ⟨q1, q2, n, q3, q4⟩ := q
    refine ⟨.int n, S1, ?_, q4⟩
    simp only [q1, q2, and_self, if_true, q3]
  obtain ⟨d, S2, e2, p⟩ := e1
  exact ⟨d, S2, e0.trans e2, p⟩
theorem Ep_kget {tab : List (Int × List Int)} {fk fx : EM D} : Ep (eKGet tab fk fx) S PD = Ep fk S fun k S1 => Ep fx S1 fun x S2 => ∃ i, k = .int i ∧ PD (tabD tab i x) S2 := by
  unfold eKGet
  simp only [Ep_bind]
  congr 1
  funext k S1
  congr 1
  funext x S2
  cases k <;> simp [Ep_ret, Ep_bad]
theorem Ep_make {cls : Str} {k : Nat} {g : List D → Option (List Str × List D)} {fa : EM (List D)} : Ep (eMake cls k g fa) S PD = Ep fa S fun as S1 => as.length = k ∧ ∃ ns ds, g as = some (ns, ds) ∧ PD (obD cls ns ds) S1 := by
  unfold eMake
  simp only [Ep_bind, Ep_ite, Ep_bad]
  congr 1
  funext as S1
  split
  · rename_i h
    cases e : g as with
    | none => simp [h, Ep_bad]
    | some p =>
      obtain ⟨ns, ds⟩ := p
      simp only [h, Ep_ret, true_and]
      exact propext ⟨fun q => ⟨_, _, rfl, q⟩, fun ⟨_, _, q1, q2⟩ => (by cases q1; exact q2)⟩
  · rename_i h; simp [h]
/-- what a def that makes an object leaves -/
theorem I_run {n : Nat} {body : SM} {cls : Str} {a dx : Addr} {as : List D} {ns : List Str} {ds : List D} (h : Wp body (.obj a dx cls [] [] :: startS as (n - 1)) fun o => ∃ S, o = .nx (.obj a dx cls ns ds :: S)) : runI n body cls a dx as = some (ns, ds) := by
  obtain ⟨_, S, e⟩ := h
  unfold runI
  rw [e]
  unfold outI
  simp
theorem Ep_idx {fo fk : EM D} : Ep (eIdx fo fk) S PD = Ep fo S fun d S1 => ∃ ds, d = .list ds ∧ Ep fk S1 fun k S2 => ∃ r, idxD (.list ds) k = some r ∧ PD r S2 := by
  unfold eIdx
  simp only [Ep_bind]
  congr 1
  funext d S1
  cases d with
  | list ds =>
    simp only [Ep_ret, Ep_bind, Ep_opt]
    exact propext ⟨fun q => ⟨ds, rfl, q⟩, fun ⟨_, e, q⟩ => (by cases e; exact q)⟩
  | _ => simp [Ep_bad]
/-! ### while -/
theorem while_n {t : EM Bool} {body : SM} (st : Nat → List Slot) (k : Nat) (ht : ∀ i, i < k → Ep t (st i) fun b S1 => b = true ∧ S1 = st i) (hb : ∀ i, i < k → Wp body (st i) fun o => o = .nx (st (i + 1)) ∨ o = .ct (st (i + 1))) (he : Ep t (st k) fun b S1 => b = false ∧ S1 = st k) :
    ∀ (j n : Nat), j ≤ k → k - j < n → whileL t body n (st j) = .nx (st k) := by
  intro j n hj hn
  induction n generalizing j with
  | zero => omega
  | succ n ih =>
    by_cases e : j = k
    · subst e
      obtain ⟨b, S1, e1, rfl, rfl⟩ := he
      unfold whileL
      rw [e1]
    · obtain ⟨b, S1, e1, rfl, rfl⟩ := ht j (by omega)
      obtain ⟨_, e2⟩ := hb j (by omega)
      unfold whileL
      rw [e1]
      rcases e2 with e2 | e2
      · simp only [e2]
        exact ih (j + 1) (by omega) (by omega)
      · simp only [e2]
        exact ih (j + 1) (by omega) (by omega)
/-- a loop that goes k times -/
theorem W_whileN {n : Nat} {t : EM Bool} {body : SM} (st : Nat → List Slot) (k : Nat) (hs : S = st 0) (hk : k < n) (ht : ∀ i, i < k → Ep t (st i) fun b S1 => b = true ∧ S1 = st i) (hb : ∀ i, i < k → Wp body (st i) fun o => o = .nx (st (i + 1)) ∨ o = .ct (st (i + 1))) (he : Ep t (st k) fun b S1 => b = false ∧ S1 = st k) (q : Q (.nx (st k))) : Wp (whileL t body n) S Q := by
  subst hs
  have e := while_n st k ht hb he 0 n (by omega) (by omega)
  unfold Wp
  rw [e]
  exact ⟨rfl, q⟩
end
/-! ### rows of small numbers -/
def nI (k : Nat) : D := .int (k : Nat)
theorem nI_eq (k : Nat) : nI k = .int (k : Nat) := rfl
/-- a list or a tuple of numbers -/
def Row (d : D) (xs : List Nat) : Prop := d = .list (xs.map nI) ∨ d = .tuple (xs.map nI)
theorem getN {xs : List Nat} {k : Nat} (h : k < xs.length) : (xs.map nI)[k]? = some (nI (xs.getD k 0)) := by
  rw [List.getElem?_map, List.getElem?_eq_getElem h, List.getD_eq_getElem?_getD, List.getElem?_eq_getElem h]
  rfl
theorem Row.len {d : D} {xs : List Nat} (h : Row d xs) : lenD [d] = some (.int xs.length) := by
  rcases h with rfl | rfl
  · rw [lenD_l, List.length_map]
  · rw [lenD_t, List.length_map]
theorem Row.ix {d : D} {xs : List Nat} (h : Row d xs) {k : Nat} (hk : k < xs.length) : ixD d (.int k) = some (.int (xs.getD k 0 : Nat)) := by
  rcases h with rfl | rfl
  · exact ixD_l (getN hk)
  · exact ixD_t (getN hk)
theorem Row.walk {d : D} {xs : List Nat} (h : Row d xs) : walkA d = some (xs.map nI) := by
  rcases h with rfl | rfl <;> rfl
theorem rng2_ok {i j : Nat} (hi : i < 2 ^ 62) (h : j < 2 ^ 62) : rng2 [.int i, .int j] = some ((List.range (j - i)).map fun k => nI (i + k)) := by
  have e : rng2 [.int i, .int j] = (if big62 i && big62 j then some (intsD i ((j : Int) - i).toNat) else none) := rfl
  have b : (big62 i && big62 j) = true := by
    unfold big62
    simp
    omega
  rw [e, if_pos b]
  unfold intsD nI
  have : ((j : Int) - i).toNat = j - i := by omega
  rw [this]
  rfl
theorem rng2_1 {j : Nat} (h : j < 2 ^ 62) : rng2 [.int 1, .int j] = some ((List.range (j - 1)).map fun k => nI (1 + k)) := rng2_ok (i := 1) (by decide) h
/-- the first place of a number in a row -/
theorem idx_first {n : Nat} {g : Nat → Nat} {v j : Nat} (hj : j < n) (h1 : g j = v) (h2 : ∀ i, i < j → g i ≠ v) : idxD (.list ((List.range n).map fun c => .int (g c : Nat))) (.int (v : Nat)) = some (.int (j : Nat)) := by
  have e : (List.range n).map (fun c => PyData.int (g c : Nat)) = ((List.range n).map fun c => ((g c : Nat) : Int)).map PyData.int := by rw [List.map_map]; rfl
  rw [e]
  have e2 : idxD (.list (((List.range n).map fun c => ((g c : Nat) : Int)).map PyData.int)) (.int (v : Nat)) = (allI (((List.range n).map fun c => ((g c : Nat) : Int)).map PyData.int)).bind fun ns => (ns.findIdx? fun m => decide (m = ((v : Nat) : Int))).map fun j => .int (j : Nat) := rfl
  rw [e2, allI_map]
  have e3 : ((List.range n).map fun c => ((g c : Nat) : Int)).findIdx? (fun m => decide (m = ((v : Nat) : Int))) = some j := by
    rw [List.findIdx?_eq_some_iff_getElem]
    refine ⟨by simpa using hj, by simp [h1], fun i hi => ?_⟩
    have := h2 i hi
    simp
    omega
  rw [Option.bind_some, e3]
  rfl
end FW

/-! FwV: the same plain reasoning, from the top down: what comes behind is not looked at before it is reached. -/
namespace FW
open PySem PySem.Spec L2
open PyProof.Rows hiding St
universe uu
abbrev PropOf {β : Sort uu} (_ : β) : Type := Prop
def OpK {α : Type} (o : Option α) (P : α → Prop) : PropOf P := ∃ a, o = some a ∧ P a
def AndK (c X : Prop) : PropOf X := c ∧ X
def RsK (r : Rs) (P : D → Prop) : PropOf P := ∃ d, r = .ok d ∧ P d
abbrev PropOf2 (_ _ : Prop) : Type := Prop
def IteK (b : Bool) (X Y : Prop) : PropOf2 X Y := if b then X else Y
theorem IteK_t {X Y : Prop} : IteK true X Y = X := rfl
theorem IteK_f {X Y : Prop} : IteK false X Y = Y := rfl
theorem OpK_some {α : Type} {a : α} {P : α → Prop} : OpK (some a) P = P a := propext ⟨fun ⟨_, e, p⟩ => (by cases e; exact p), fun p => ⟨a, rfl, p⟩⟩
theorem AndK_t {X : Prop} : AndK True X = X := propext ⟨fun h => h.2, fun h => ⟨trivial, h⟩⟩
theorem RsK_ok {d : D} {P : D → Prop} : RsK (.ok d) P = P d := propext ⟨fun ⟨_, e, p⟩ => (by cases e; exact p), fun p => ⟨d, rfl, p⟩⟩
theorem OpK.of {α : Type} {o : Option α} {a : α} {P : α → Prop} (e : o = some a) (p : P a) : OpK o P := ⟨a, e, p⟩
theorem AndK.of {c X : Prop} (h : c) (x : X) : AndK c X := ⟨h, x⟩
theorem RsK.of {r : Rs} {d : D} {P : D → Prop} (e : r = .ok d) (p : P d) : RsK r P := ⟨d, e, p⟩
/-- as Ep and Wp, but what comes behind is not looked into -/
def EpK {α : Type} (m : EM α) (S : List Slot) (P : α → List Slot → Prop) : PropOf P := Ep m S P
def WpK (f : SM) (S : List Slot) (Q : Out → Prop) : PropOf Q := Wp f S Q
def nxtK (g : SM) (Q : Out → Prop) : Out → Prop
  | .nx S => WpK g S Q
  | o => Q o
theorem Ep_K {α : Type} {m : EM α} {S : List Slot} {P : α → List Slot → Prop} : Ep m S P = EpK m S P := rfl
theorem Wp_K {f : SM} {S : List Slot} {Q : Out → Prop} : Wp f S Q = WpK f S Q := rfl
theorem nxtK_nx {g : SM} {S : List Slot} {Q : Out → Prop} : nxtK g Q (.nx S) = WpK g S Q := rfl
theorem nxtK_rt {g : SM} {d : D} {S : List Slot} {Q : Out → Prop} : nxtK g Q (.rt d S) = Q (.rt d S) := rfl
theorem nxtK_bk {g : SM} {S : List Slot} {Q : Out → Prop} : nxtK g Q (.bk S) = Q (.bk S) := rfl
theorem nxtK_ct {g : SM} {S : List Slot} {Q : Out → Prop} : nxtK g Q (.ct S) = Q (.ct S) := rfl
theorem nxtK_ex {g : SM} {e : Exn} {S : List Slot} {Q : Out → Prop} : nxtK g Q (.ex e S) = Q (.ex e S) := rfl
section
variable {α β : Type} {S : List Slot} {P : α → List Slot → Prop} {PD : D → List Slot → Prop} {PL : List D → List Slot → Prop} {PB : Bool → List Slot → Prop} {PM : List (D × D) → List Slot → Prop} {PO : Option Int → List Slot → Prop} {Q : Out → Prop}
/-- what stands at a place -/
def VK (o : Option Slot) (S : List Slot) (i : Nat) (PD : D → List Slot → Prop) : PropOf PD := match o with
  | some (.dat d) => PD d S
  | some (.own ds) => PD (.list ds) (S.set i (.dat (.list ds)))
  | some (.dic t es) => PD (dictD t es) (S.set i (.dat (dictD t es)))
  | _ => False
theorem VK_dat {d : D} {i : Nat} : VK (some (.dat d)) S i PD = PD d S := rfl
theorem VK_own {ds : List D} {i : Nat} : VK (some (.own ds)) S i PD = PD (.list ds) (S.set i (.dat (.list ds))) := rfl
theorem VK_dic {t : Bool} {es : List (D × D)} {i : Nat} : VK (some (.dic t es)) S i PD = PD (dictD t es) (S.set i (.dat (dictD t es))) := rfl
theorem X_V {i : Nat} : EpK (eV i) S PD = VK (S[i]?) S i PD := Ep_Vm
theorem X_ret (a : α) : EpK (eRet a) S P = P a S := Ep_ret a
theorem X_opt (o : Option α) : EpK (eOpt o) S P = OpK o fun a => P a S := Ep_opt o
theorem X_bind {m : EM α} {g : α → EM β} {PB : β → List Slot → Prop} : EpK (eBind m g) S PB = EpK m S fun a S1 => EpK (g a) S1 PB := Ep_bind
theorem X_C (d : D) : EpK (eC d) S PD = PD d S := Ep_ret d
theorem X_nil : EpK aNil S PL = PL [] S := Ep_ret []
theorem X_no : EpK oNo S PO = PO none S := Ep_ret none
theorem X_some {f : EM D} : EpK (oSome f) S PO = EpK f S fun d S1 => OpK (asI d) fun i => PO (some i) S1 := Ep_some
theorem X_yes : EpK bYes S PB = PB true S := Ep_ret true
theorem X_cons {f : EM D} {g : EM (List D)} : EpK (aCons f g) S PL = EpK f S fun d S1 => EpK g S1 fun ds S2 => PL (d :: ds) S2 := Ep_cons
theorem X_bin {op : D → D → Option D} {fa fb : EM D} : EpK (eBin op fa fb) S PD = EpK fa S fun a S1 => EpK fb S1 fun b S2 => OpK (op a b) fun d => PD d S2 := Ep_bin
theorem X_un {op : D → Option D} {fa : EM D} : EpK (eUn op fa) S PD = EpK fa S fun a S1 => OpK (op a) fun d => PD d S1 := Ep_un
theorem X_ix {fa fb : EM D} : EpK (eIx fa fb) S PD = EpK fa S fun a S1 => EpK fb S1 fun b S2 => OpK (ixD a b) fun d => PD d S2 := Ep_bin
theorem X_B {g : List D → Option D} {fa : EM (List D)} : EpK (eB g fa) S PD = EpK fa S fun a S1 => OpK (g a) fun d => PD d S1 := Ep_B
theorem X_BF {g : List D → Option (List D)} {fa : EM (List D)} : EpK (eBF g fa) S PL = EpK fa S fun a S1 => OpK (g a) fun d => PL d S1 := Ep_BF
theorem X_binF {g : D → D → Option (List D)} {fa fb : EM D} : EpK (eBinF g fa fb) S PL = EpK fa S fun a S1 => EpK fb S1 fun b S2 => OpK (g a b) fun d => PL d S2 := by
  simp only [← Ep_K, ← Wp_K]
  unfold eBinF
  simp only [Ep_bind, Ep_opt]
  rfl
theorem small_le {n : Nat} (h : n ≤ 1000000) : small n = true := small_of h
theorem X_tup {fa : EM (List D)} : EpK (eTup fa) S PD = EpK fa S fun ds S1 => AndK (small ds.length = true) (PD (.tuple ds) S1) := Ep_tup
theorem X_lst {fa : EM (List D)} : EpK (eLst fa) S PD = EpK fa S fun ds S1 => AndK (small ds.length = true) (PD (.list ds) S1) := Ep_lst
theorem X_lstF {fa : EM (List D)} : EpK (eBind fa fun ds => if small ds.length then eRet ds else fun _ => .bad) S PL = EpK fa S fun ds S1 => AndK (small ds.length = true) (PL ds S1) := Ep_lstF
theorem X_bOf {f : EM D} : EpK (bOf f) S PB = EpK f S fun d S1 => OpK (asB d) fun b => PB b S1 := Ep_bOf
theorem X_and {f g : EM Bool} : EpK (bAnd f g) S PB = EpK f S fun b S1 => IteK b (EpK g S1 PB) (PB false S1) := Ep_and
theorem X_or {f g : EM Bool} : EpK (bOr f g) S PB = EpK f S fun b S1 => IteK b (PB true S1) (EpK g S1 PB) := Ep_or
theorem X_not {f : EM Bool} : EpK (bNot f) S PB = EpK f S fun b S1 => PB (!b) S1 := Ep_not
def BoK (d : D) (P : Bool → Prop) : PropOf P := ∃ b, d = .bool b ∧ P b
theorem BoK_b {b : Bool} {P : Bool → Prop} : BoK (.bool b) P = P b := propext ⟨fun ⟨_, e, p⟩ => (by cases e; exact p), fun p => ⟨b, rfl, p⟩⟩
theorem X_eAnd {f g : EM D} : EpK (eAnd f g) S PD = EpK f S fun d S1 => BoK d fun b => IteK b (EpK g S1 PD) (PD (.bool false) S1) := Ep_eAnd
theorem X_eOr {f g : EM D} : EpK (eOr f g) S PD = EpK f S fun d S1 => BoK d fun b => IteK b (PD (.bool true) S1) (EpK g S1 PD) := Ep_eOr
theorem X_eNot {f : EM D} : EpK (eNot f) S PD = EpK f S fun d S1 => BoK d fun b => PD (.bool (!b)) S1 := Ep_eNot
theorem X_eIf {t : EM Bool} {f g : EM D} : EpK (eIf t f g) S PD = EpK t S fun b S1 => IteK b (EpK f S1 PD) (EpK g S1 PD) := Ep_eIf
theorem X_sl {f : EM D} {lo hi : EM (Option Int)} : EpK (eSl f lo hi) S PD = EpK f S fun d S1 => EpK lo S1 fun l S2 => EpK hi S2 fun h S3 => OpK (slD d l h) fun r => PD r S3 := Ep_sl
theorem X_fz {f : EM (List D)} : EpK (eFz f) S PD = EpK f S fun ds S1 => PD (.list ds) S1 := Ep_fz
theorem X_chain {g g' : D → D → Option D} {fa fb fc : EM D} : EpK (eChain g g' fa fb fc) S PD = EpK fa S fun a S1 => EpK fb S1 fun b S2 => OpK (g a b) fun k => BoK k fun t => IteK t (EpK fc S2 fun c S3 => OpK (g' b c) fun d => PD d S3) (PD (.bool false) S2) := by
  simp only [← Ep_K, ← Wp_K]
  unfold eChain
  simp only [Ep_bind, Ep_opt]
  congr 1
  funext a S1
  congr 1
  funext b S2
  unfold OpK
  congr 1
  funext k
  congr 1
  cases k with
  | bool t =>
    show _ = BoK (.bool t) _
    rw [BoK_b]
    cases t
    · exact Ep_ret _
    · simp only [Ep_bind, Ep_opt]
      rfl
  | _ => simp [BoK, Ep_bad]
theorem X_call {m : Nat} {g : List D → Rs} {fa : EM (List D)} : EpK (eCall m g fa) S PD = EpK fa S fun ds S1 => AndK (ds.length = m) (RsK (g ds) fun d => PD d S1) := Ep_call
theorem X_meth {cls m : Str} {k : Nat} {g : List D → Rs} {fo : EM D} {fa : EM (List D)} : EpK (eMeth cls m k g fo fa) S PD = EpK fo S fun d S1 => AndK (isOb cls m d = true) (EpK fa S1 fun ds S2 => AndK (ds.length = k) (RsK (g (d :: ds)) fun r => PD r S2)) := Ep_meth
theorem X_rng1 {f : EM (List D)} : EpK (iR1 f) S PL = EpK f S fun ds S1 => OpK (rng1 ds) fun r => PL r S1 := Ep_rng1
theorem X_rng2 {f : EM (List D)} : EpK (iR2 f) S PL = EpK f S fun ds S1 => OpK (rng2 ds) fun r => PL r S1 := Ep_rng2
theorem X_rng3 {f : EM (List D)} : EpK (iR3 f) S PL = EpK f S fun ds S1 => OpK (rng3 ds) fun r => PL r S1 := Ep_rng3
theorem X_iA {f : EM D} : EpK (iA f) S PL = EpK f S fun d S1 => OpK (walkA d) fun r => PL r S1 := Ep_iA
theorem X_lr1 {f : EM D} : EpK (eLr1 f) S PL = EpK f S fun d S1 => OpK (lr1 d) fun r => PL r S1 := by
  simp only [← Ep_K, ← Wp_K]
  unfold eLr1
  simp only [Ep_bind, Ep_opt]
  rfl
theorem X_lr2 {f g : EM D} : EpK (eLr2 f g) S PL = EpK f S fun d S1 => EpK g S1 fun e S2 => OpK (lr2 d e) fun r => PL r S2 := by
  simp only [← Ep_K, ← Wp_K]
  unfold eLr2
  simp only [Ep_bind, Ep_opt]
  rfl
theorem X_kget {tab : List (Int × List Int)} {fk fx : EM D} : EpK (eKGet tab fk fx) S PD = EpK fk S fun k S1 => EpK fx S1 fun x S2 => OpK (asI k) fun i => PD (tabD tab i x) S2 := by
  simp only [← Ep_K, ← Wp_K]
  rw [Ep_kget]
  congr 1
  funext k S1
  congr 1
  funext x S2
  cases k <;> simp [OpK, asI]
theorem X_make {cls : Str} {k : Nat} {g : List D → Option (List Str × List D)} {fa : EM (List D)} : EpK (eMake cls k g fa) S PD = EpK fa S fun as S1 => AndK (as.length = k) (OpK (g as) fun p => PD (obD cls p.1 p.2) S1) := by
  simp only [← Ep_K, ← Wp_K]
  rw [Ep_make]
  congr 1
  funext as S1
  unfold AndK OpK
  congr 1
  exact propext ⟨fun ⟨ns, ds, e, p⟩ => ⟨(ns, ds), e, p⟩, fun ⟨⟨ns, ds⟩, e, p⟩ => ⟨ns, ds, e, p⟩⟩
theorem X_get2 {fo fk fx : EM D} : EpK (eGet2 fo fk fx) S PD = EpK fo S fun d S1 => EpK fk S1 fun k S2 => EpK fx S2 fun x S3 => OpK (getDic d k) fun o => PD (o.getD x) S3 := by
  simp only [← Ep_K, ← Wp_K]
  unfold eGet2
  simp only [Ep_bind, Ep_opt]
  congr 1
  funext d S1
  congr 1
  funext k S2
  congr 1
  funext x S3
  unfold OpK
  cases getDic d k <;> simp
theorem X_get1 {fo fk : EM D} : EpK (eGet1 fo fk) S PD = EpK fo S fun d S1 => EpK fk S1 fun k S2 => OpK (getDic d k) fun o => PD (o.getD .none) S2 := by
  simp only [← Ep_K, ← Wp_K]
  unfold eGet1
  simp only [Ep_bind, Ep_opt]
  congr 1
  funext d S1
  congr 1
  funext k S2
  unfold OpK
  cases getDic d k <;> simp
theorem X_eDic {f : EM D} : EpK (eDic f) S PD = EpK f S fun d S1 => AndK ((dicOf d).isSome = true) (PD d S1) := by
  simp only [← Ep_K, ← Wp_K]
  unfold eDic
  simp only [Ep_bind, Ep_ite, Ep_ret, Ep_bad]
  congr 1
  funext d S1
  unfold AndK
  split
  · rename_i h; simp [h]
  · rename_i h; simp [h]
def LsK (d : D) (P : List D → Prop) : PropOf P := ∃ ds, d = .list ds ∧ P ds
theorem LsK_l {ds : List D} {P : List D → Prop} : LsK (.list ds) P = P ds := propext ⟨fun ⟨_, e, p⟩ => (by cases e; exact p), fun p => ⟨ds, rfl, p⟩⟩
theorem X_idx {fo fk : EM D} : EpK (eIdx fo fk) S PD = EpK fo S fun d S1 => LsK d fun ds => EpK fk S1 fun k S2 => OpK (idxD (.list ds) k) fun r => PD r S2 := Ep_idx
/-! what is read where it stands -/
theorem X_VO {i : Nat} : EpK (eVO i) S PD = OpK (slotAt S i) fun d => PD d S := by
  simp only [← Ep_K, ← Wp_K]
  unfold Ep eVO OpK
  cases slotAt S i with
  | none => simp
  | some d => exact propext ⟨fun ⟨_, _, e, p⟩ => (by cases e; exact ⟨_, rfl, p⟩), fun ⟨_, e, p⟩ => (by cases e; exact ⟨_, _, rfl, p⟩)⟩
theorem X_BO {g : List D → Option D} {i : Nat} : EpK (eBO g i) S PD = OpK (slotAt S i) fun d => OpK (g [d]) fun r => PD r S := by
  simp only [← Ep_K, ← Wp_K]
  cases e : slotAt S i with
  | none =>
    have : eBO g i S = .bad := by unfold eBO; rw [e]
    unfold Ep OpK
    rw [this]
    simp
  | some d => rw [Ep_BO e, OpK_some]; rfl
theorem X_BFO {g : List D → Option (List D)} {i : Nat} : EpK (eBFO g i) S PL = OpK (slotAt S i) fun d => OpK (g [d]) fun r => PL r S := by
  simp only [← Ep_K, ← Wp_K]
  cases e : slotAt S i with
  | none =>
    have : eBFO g i S = .bad := by unfold eBFO; rw [e]
    unfold Ep OpK
    rw [this]
    simp
  | some d =>
    have : eBFO g i S = eOpt (g [d]) S := by unfold eBFO; rw [e]
    rw [OpK_some]
    unfold Ep
    rw [this]
    exact Ep_opt _
theorem X_binO {g : D → D → Option D} {i : Nat} {fb : EM D} : EpK (eBinO g i fb) S PD = OpK (slotAt S i) fun _ => EpK fb S fun b S1 => OpK (slotAt S1 i) fun a => OpK (g a b) fun d => PD d S1 := by
  simp only [← Ep_K, ← Wp_K]
  cases e : slotAt S i with
  | none =>
    have : eBinO g i fb S = .bad := by unfold eBinO; rw [e]
    unfold Ep OpK
    rw [this]
    simp
  | some d =>
    rw [OpK_some]
    have h : eBinO g i fb S = eBind fb (fun b S => match slotAt S i with | some a => eOpt (g a b) S | none => .bad) S := by
      unfold eBinO
      simp only [e] <;> rfl
    have h2 : Ep (eBinO g i fb) S PD = Ep (eBind fb (fun b S => match slotAt S i with | some a => eOpt (g a b) S | none => .bad)) S PD := by unfold Ep; rw [h]
    rw [h2, Ep_bind]
    congr 1
    funext b S1
    cases e1 : slotAt S1 i with
    | none => unfold Ep OpK; simp [e1]
    | some a =>
      rw [OpK_some]
      have : Ep (fun S => match slotAt S i with | some a => eOpt (g a b) S | none => .bad) S1 PD = Ep (eOpt (g a b)) S1 PD := by
        unfold Ep
        simp only [e1]
      exact this.trans (Ep_opt _)
theorem X_ixO {i : Nat} {fb : EM D} : EpK (eIxO i fb) S PD = OpK (slotAt S i) fun _ => EpK fb S fun b S1 => OpK (slotAt S1 i) fun a => OpK (ixD a b) fun d => PD d S1 := X_binO
theorem slotAt_eq {i : Nat} : slotAt S i = (S[i]?).bind slotO := rfl
theorem slotO_own {ds : List D} : slotO (.own ds) = some (.list ds) := rfl
theorem slotO_dic {t : Bool} {es : List (D × D)} : slotO (.dic t es) = some (dictD t es) := rfl
/-! what is changed where it stands -/
def MuK (o : Option Slot) (S : List Slot) (i : Nat) (g : List D → List D → Option (D × List D)) (as : List D) (PD : D → List Slot → Prop) : PropOf PD := match o with
  | some (.own ds) => OpK (g ds as) fun r => PD r.1 (S.set i (.own r.2))
  | _ => False
theorem MuK_own {ds : List D} {i : Nat} {g : List D → List D → Option (D × List D)} {as : List D} : MuK (some (.own ds)) S i g as PD = OpK (g ds as) fun r => PD r.1 (S.set i (.own r.2)) := rfl
def OwK (o : Option Slot) (X : Prop) : PropOf X := match o with
  | some (.own _) => X
  | _ => False
theorem OwK_own {ds : List D} {X : Prop} : OwK (some (.own ds)) X = X := rfl
theorem X_mut {i : Nat} {g : List D → List D → Option (D × List D)} {fa : EM (List D)} : EpK (eMut i g fa) S PD = OwK (S[i]?) (EpK fa S fun as S1 => MuK (S1[i]?) S1 i g as PD) := Ep_mut
/-! statements -/
theorem Y_nx : WpK sNx S Q = Q (.nx S) := Wp_nx
theorem Y_pass : WpK sPass S Q = Q (.nx S) := Wp_pass
theorem Y_brk : WpK sBrk S Q = Q (.bk S) := Wp_brk
theorem Y_cnt : WpK sCnt S Q = Q (.ct S) := Wp_cnt
theorem Y_retN : WpK sRetN S Q = Q (.rt .none S) := Wp_retN
theorem Y_seq {f g : SM} : WpK (sSeq f g) S Q = WpK f S (nxtK g Q) := Wp_seq
theorem Y_asg {f : EM D} {g : Tg} : WpK (sAsg f g) S Q = EpK f S fun d S1 => OpK (g d S1) fun S2 => Q (.nx S2) := Wp_asg
theorem Y_set {i : Nat} {f : EM D} : WpK (sSet i f) S Q = EpK f S fun d S1 => AndK (i < S1.length) (Q (.nx (S1.set i (.dat d)))) := Wp_set
theorem Y_own {i : Nat} {f : EM (List D)} : WpK (sOwn i f) S Q = EpK f S fun ds S1 => AndK (i < S1.length) (Q (.nx (S1.set i (.own ds)))) := Wp_own
theorem Y_dat {i : Nat} {f : EM (List D)} : WpK (sDat i f) S Q = EpK f S fun ds S1 => AndK (i < S1.length) (Q (.nx (S1.set i (.dat (.list ds))))) := Wp_dat
theorem Y_dic {i : Nat} {t : Bool} {f : EM (List (D × D))} : WpK (sDic i t f) S Q = EpK f S fun es S1 => AndK (i < S1.length) (Q (.nx (S1.set i (.dic t es)))) := Wp_dic
theorem Y_ret {f : EM D} : WpK (sRet f) S Q = EpK f S fun d S1 => Q (.rt d S1) := Wp_ret
theorem Y_expr {f : EM D} : WpK (sExpr f) S Q = EpK f S fun d S1 => Q (.nx S1) := Wp_expr
theorem Y_if {t : EM Bool} {f g : SM} : WpK (sIf t f g) S Q = EpK t S fun b S1 => IteK b (WpK f S1 Q) (WpK g S1 Q) := Wp_if
theorem Y_par {i j : Nat} {f : EM (List D)} : WpK (sPar i j f) S Q = EpK f S fun ds S1 => OpK (gTwo i j ds S1) fun S2 => Q (.nx S2) := Wp_par
theorem Y_par3 {i j l : Nat} {f : EM (List D)} : WpK (sPar3 i j l f) S Q = EpK f S fun ds S1 => OpK (gThree i j l ds S1) fun S2 => Q (.nx S2) := Wp_par3
def AuK (o : Option Slot) (P : D → Prop) : PropOf P := match o with
  | some (.dat a) => P a
  | _ => False
theorem AuK_dat {d : D} {P : D → Prop} : AuK (some (.dat d)) P = P d := rfl
theorem Y_aug {i : Nat} {g : D → D → Option D} {f : EM D} : WpK (sAug i g f) S Q = AuK (S[i]?) fun a => EpK f S fun b S1 => OpK (g a b) fun d => Q (.nx (S1.set i (.dat d))) := Wp_aug
theorem Y_for {src : EM (List D)} {g : Tg} {body : SM} : WpK (sFor src g body) S Q = EpK src S fun ds S1 => WpK (fun S => forL g body ds S) S1 Q := Wp_for
theorem Y_while {n : Nat} {t : EM Bool} {body : SM} : WpK (sWhile n t body) S Q = WpK (whileL t body n) S Q := rfl
theorem Y_setIx {i : Nat} {fe fk : EM D} : WpK (sSetIx i fe fk) S Q = EpK fe S fun d S1 => OpK (slotAt S1 i) fun _ => EpK fk S1 fun k S2 => OpK ((S2[i]?).bind fun s => setAtD s k d) fun s' => Q (.nx (S2.set i s')) := by
  simp only [← Ep_K, ← Wp_K]
  rw [Wp_setIx]
  rfl
/-- targets -/
theorem g_N {i : Nat} {d : D} : gN i d S = if i < S.length then some (S.set i (.dat d)) else none := rfl
theorem g_two {i j : Nat} {a b : D} : gTwo i j [a, b] S = (gN i a S).bind fun S' => gN j b S' := rfl
theorem g_three {i j l : Nat} {a b c : D} : gThree i j l [a, b, c] S = (gN i a S).bind fun S' => (gN j b S').bind fun S'' => gN l c S'' := rfl
theorem g_T {n : Nat} {t : List D → List Slot → Option (List Slot)} {ds : List D} : gT t n (.tuple ds) S = if ds.length = n then t ds S else none := rfl
theorem g_L {n : Nat} {t : List D → List Slot → Option (List Slot)} {ds : List D} : gL t n (.list ds) S = if ds.length = n then t ds S else none := rfl
theorem g_nil : gsNil [] S = some S := rfl
theorem g_cons {g : Tg} {t : List D → List Slot → Option (List Slot)} {d : D} {ds : List D} : gsCons g t (d :: ds) S = (g d S).bind fun S' => t ds S' := rfl
end
theorem asB_b {b : Bool} : asB (.bool b) = some b := rfl
theorem asI_i {i : Int} : asI (.int i) = some i := rfl
theorem lt_l0 {α : Type} {a : α} {l : List α} : (0 < (a :: l).length) = True := by simp
theorem lt_ls {α : Type} {a : α} {l : List α} {i : Nat} : (i + 1 < (a :: l).length) = (i < l.length) := by simp
theorem le_l0 {α : Type} {k : Nat} : (([] : List α).length ≤ k) = True := by simp
theorem le_ls {α : Type} {a : α} {l : List α} {k : Nat} : ((a :: l).length ≤ k + 1) = (l.length ≤ k) := by simp
theorem eq_l0 {α : Type} : (([] : List α).length = 0) = True := by simp
theorem eq_ls {α : Type} {a : α} {l : List α} {k : Nat} : ((a :: l).length = k + 1) = (l.length = k) := by simp
theorem sm_l {α : Type} {l : List α} (h : l.length ≤ 1000000) : (small l.length = true) = True := by simp [small_of h]
theorem R_run2 {n : Nat} {b : SM} {ds : List D} {P : D → Prop} (h : Wp b (startS ds n) fun o => match o with | .rt d _ => P d | .nx _ => P .none | _ => False) : RsK (runF n b ds) P := R_run h
theorem RsK.eq {r : Rs} {d : D} (h : RsK r fun x => x = d) : r = .ok d := Rp1.eq h
end FW

/-! FwW: plain reasoning about the drawn numbers. -/
namespace FW
open PySem PySem.Spec L2
open PyProof.Rows hiding St
def RwK (r : Rw) (P : D → Int → List Int → Prop) : PropOf P := ∃ d k ns, r = .ok d k ns ∧ P d k ns
theorem RwK_ok {d : D} {k : Int} {ns : List Int} {P : D → Int → List Int → Prop} : RwK (.ok d k ns) P = P d k ns := propext ⟨fun ⟨_, _, _, e, p⟩ => (by cases e; exact p), fun p => ⟨d, k, ns, rfl, p⟩⟩
def DrK (o : Option Slot) (X : Prop) : PropOf X := match o with
  | some (.drw _ _ _) => X
  | _ => False
def WkK (o : Option Slot) (g : Addr → Int → List Int → List D → Rw) (ds : List D) (P : D → Addr → Int → List Int → Prop) : PropOf P := match o with
  | some (.drw a k ns) => RwK (g a k ns ds) fun d k' ns' => P d a k' ns'
  | _ => False
theorem DrK_d {a : Addr} {k : Int} {ns : List Int} {X : Prop} : DrK (some (.drw a k ns)) X = X := rfl
theorem WkK_d {a : Addr} {k : Int} {ns : List Int} {g : Addr → Int → List Int → List D → Rw} {ds : List D} {P : D → Addr → Int → List Int → Prop} : WkK (some (.drw a k ns)) g ds P = RwK (g a k ns ds) fun d k' ns' => P d a k' ns' := rfl
theorem X_W {i m : Nat} {g : Addr → Int → List Int → List D → Rw} {fa : EM (List D)} {S : List Slot} {PD : D → List Slot → Prop} : EpK (eCallW i m g fa) S PD = DrK (S[i]?) (EpK fa S fun ds S1 => AndK (ds.length + 1 = m) (WkK (S1[i]?) g ds fun d a k' ns' => PD d (S1.set i (.drw a k' ns')))) := by
  simp only [← Ep_K]
  cases e : S[i]? with
  | none => unfold Ep eCallW DrK; simp [e]
  | some s =>
    cases s with
    | drw a k ns =>
      rw [DrK_d]
      have h : Ep (eCallW i m g fa) S PD = Ep (eBind fa (fun ds S => match S[i]? with
    | some (.drw a k ns) => if ds.length + 1 = m then (match g a k ns ds with
      | .ok d k' ns' => .ok d (S.set i (.drw a k' ns'))
      | .bad => .bad) else .bad
    | _ => .bad)) S PD := by
        unfold Ep eCallW
        simp only [e] <;> rfl
      rw [h, Ep_bind]
      congr 1
      funext ds S1
      unfold Ep AndK WkK
      cases e1 : S1[i]? with
      | none => simp [e1]
      | some s1 =>
        cases s1 with
        | drw a1 k1 ns1 =>
          by_cases hm : ds.length + 1 = m
          · cases e2 : g a1 k1 ns1 ds with
            | ok d k2 ns2 =>
              simp only [e1, hm, if_true, e2, true_and]
              rw [RwK_ok]
              exact propext ⟨fun ⟨_, _, e, p⟩ => (by cases e; exact p), fun p => ⟨_, _, rfl, p⟩⟩
            | bad => simp [e1, hm, e2, RwK]
          · simp [e1, hm]
        | _ => simp [e1]
    | _ => unfold Ep eCallW DrK; simp [e]
theorem RwK_take {a : Addr} {k : Int} {ns : List Int} {n : Nat} {P : D → Int → List Int → Prop} (h : DrawOk ns) (hn : n < 2 ^ 200) (q : ∀ (r : Nat) (k' : Int) (ns' : List Int), DrawOk ns' → (1 ≤ n → r < n) → (n ≤ 1 → r = 0) → P (.int r) k' ns') : RwK (takeW a k ns [.int n]) P := by
  obtain ⟨r, k', ns', e, h1, h2, h3, h4⟩ := takeL_ok k h (m := n) (by omega)
  obtain ⟨r, rfl⟩ := Int.eq_ofNat_of_zero_le h2
  refine ⟨.int r, k', ns', ?_, q r k' ns' h1 (fun z => by have := h4 (by omega); omega) (fun z => by have := h3 (by omega); omega)⟩
  unfold takeW
  simp only [e]
theorem R_runW {n : Nat} {b : SM} {a : Addr} {k : Int} {ns : List Int} {ds : List D} {P : D → Int → List Int → Prop} (h : Wp b (.drw a k ns :: startS ds (n - 1)) fun o => ∃ d k' ns' S, o = .rt d (.drw a k' ns' :: S) ∧ P d k' ns') : RwK (runW n b a k ns ds) P := by
  obtain ⟨_, d, k', ns', S, e, p⟩ := h
  refine ⟨d, k', ns', ?_, p⟩
  unfold runW
  rw [e]
  unfold outW
  simp
/-! comprehensions that draw -/
inductive All2 (R : D → D → Prop) : List D → List D → Prop
  | nil : All2 R [] []
  | cons {d y : D} {ds ys : List D} : R d y → All2 R ds ys → All2 R (d :: ds) (y :: ys)
theorem All2.length {R : D → D → Prop} : ∀ {ds ys : List D}, All2 R ds ys → ys.length = ds.length
  | _, _, .nil => rfl
  | _, _, .cons _ h => by rw [List.length_cons, List.length_cons, h.length]
theorem set_comm {S : List Slot} {v w : Nat} {x y : Slot} (h : v ≠ w) : (S.set v x).set w y = (S.set w y).set v x := List.set_comm x y h
theorem compL_draw {v w : Nat} {e : EM D} {S : List Slot} {a : Addr} (R : D → D → Prop) (hvw : v ≠ w) (hv : v < S.length) : ∀ (ds : List D) (k : Int) (ns : List Int), DrawOk ns →
    (∀ d ∈ ds, ∀ k ns, DrawOk ns → Ep e ((S.set w (.drw a k ns)).set v (.dat d)) fun y S3 => R d y ∧ ∃ k' ns', DrawOk ns' ∧ S3 = (S.set w (.drw a k' ns')).set v (.dat d)) →
    ∃ ys k' ns', DrawOk ns' ∧ All2 R ds ys ∧ compL [v] (gN v) bYes e ds ((S.set w (.drw a k ns)).set v .un) = .ok ys ((S.set w (.drw a k' ns')).set v .un)
  | [], k, ns, hn, _ => ⟨[], k, ns, hn, .nil, rfl⟩
  | d :: ds, k, ns, hn, he => by
    obtain ⟨y, S3, e1, r, k1, ns1, hn1, rfl⟩ := he d (.head _) k ns hn
    obtain ⟨ys, k2, ns2, hn2, r2, e2⟩ := compL_draw R hvw hv ds k1 ns1 hn1 fun d' m => he d' (.tail _ m)
    refine ⟨y :: ys, k2, ns2, hn2, .cons r r2, ?_⟩
    unfold compL
    have eg : gN v d ((S.set w (.drw a k ns)).set v .un) = some ((S.set w (.drw a k ns)).set v (.dat d)) := by
      unfold gN
      rw [if_pos (by rw [List.length_set, List.length_set]; exact hv), List.set_set]
    have eb : ∀ S, bYes S = .ok true S := fun _ => rfl
    rw [eg]
    simp only [eb, e1, wipe1, List.set_set, e2]
theorem E_draws {v w : Nat} {src : EM (List D)} {e : EM D} {S : List Slot} {PL : List D → List Slot → Prop} {a : Addr} {k : Int} {ns : List Int} (ds : List D) (R : D → D → Prop) (hw : S[w]? = some (.drw a k ns)) (hn : DrawOk ns) (hvw : v ≠ w) (h0 : Ep src S fun ds' S1 => ds' = ds ∧ S1 = S) (hv : v < S.length) (pl : plainAt [v] S = true) (hs : ds.length ≤ 1000000)
    (he : ∀ d ∈ ds, ∀ k ns, DrawOk ns → Ep e ((S.set w (.drw a k ns)).set v (.dat d)) fun y S3 => R d y ∧ ∃ k' ns', DrawOk ns' ∧ S3 = (S.set w (.drw a k' ns')).set v (.dat d))
    (q : ∀ ys k' ns', DrawOk ns' → All2 R ds ys → PL ys (S.set w (.drw a k' ns'))) : Ep (eComp [v] src (gN v) bYes e) S PL := by
  obtain ⟨ds', S1, e1, rfl, rfl⟩ := h0
  obtain ⟨ys, k', ns', hn', r, e2⟩ := compL_draw (a := a) R hvw hv ds' k ns hn he
  refine ⟨ys, S1.set w (.drw a k' ns'), ?_, q ys k' ns' hn' r⟩
  have hsw : S1.set w (.drw a k ns) = S1 := by
    obtain ⟨hl, hg⟩ := List.getElem?_eq_some_iff.mp hw
    rw [← hg, List.set_getElem_self]
  have hsm : small ds'.length = true := small_of hs
  rw [hsw] at e2
  unfold eComp eBind
  rw [e1]
  simp only [pl, hsm, Bool.and_self, if_true, wipe1, e2]
  congr 1
  unfold restS
  rw [List.getElem?_eq_getElem hv]
  show ((S1.set w (.drw a k' ns')).set v .un).set v S1[v] = _
  rw [List.set_set]
  have hg : (S1.set w (.drw a k' ns'))[v]'(by rw [List.length_set]; exact hv) = S1[v] := List.getElem_set_ne (fun z => hvw z.symm) _
  conv => lhs; rw [← hg]
  exact List.set_getElem_self _
end FW

/-! FwX: two names set at once, each to data or to a list or dict of its own. -/
namespace FW
open PySem PySem.Spec L2
open PyProof.Rows hiding St
/-- a value as it comes, for a slot -/
def New (K : PySem.W.Frag) (c : Cfg) (v : V) (s : Slot) (c' : Cfg) : Option Addr → Prop
  | none => SlotOk K c s (some v) [] ∧ c' = c
  | some p => ∃ u, v = .ref p ∧ c.H p = none ∧ c' = c.tmp p u ∧ (∀ xs, u ≠ .tup xs) ∧ SlotOk K c' s (some v) [p]
/-- .. and later -/
def TK (K : PySem.W.Frag) (c : Cfg) (v : V) (s : Slot) : Option Addr → Prop
  | none => SlotOk K c s (some v) []
  | some p => ∃ u, v = .ref p ∧ p ∉ c.F ∧ c.Z p = none ∧ c.H p = some u ∧ (∀ xs, u ≠ .tup xs) ∧ SlotOk K c s (some v) [p]
theorem TK.step {K : PySem.W.Frag} {c c' : Cfg} {v : V} {s : Slot} {o : Option Addr} (t : TK K c v s o) (st : Stp c c') : TK K c' v s o := by
  cases o with
  | none => exact SlotOk.tr t st.z fun a m => nomatch m
  | some p =>
    obtain ⟨u, e, h1, h2, h3, h4, h5⟩ := t
    have hk := st.k p u h3 h1
    refine ⟨u, e, fun m => ?_, ?_, hk, h4, h5.tr st.z fun a m => ?_⟩
    · rcases st.f p m with m | m
      · exact h1 m
      · rw [h3] at m; cases m
    · cases q : c'.Z p with
      | none => rfl
      | some o =>
        exfalso
        rcases st.n p o q with m | m | m | ⟨xs, m⟩
        · rw [h2] at m; cases m
        · rw [h3] at m; cases m
        · exact h1 m
        · rw [h3] at m; cases m; exact h4 xs rfl
    · have : a = p := by simpa using m
      subst this
      rw [hk, h3]
theorem New.to {K : PySem.W.Frag} {S : List Slot} {σ : Sg} {c c' : Cfg} {v : V} {s : Slot} {o : Option Addr} (n : New K c v s c' o) (h : Holds K S σ c) : Stp c c' ∧ Holds K S σ c' ∧ TK K c' v s o ∧ ∀ p, o = some p → c.H p = none := by
  cases o with
  | none =>
    obtain ⟨n, rfl⟩ := n
    exact ⟨Stp.refl _, h, n, fun _ e => nomatch e⟩
  | some p =>
    obtain ⟨u, e, h1, rfl, h2, h3⟩ := n
    obtain ⟨st, h'⟩ := h.tmpS (o := u) h1
    exact ⟨st, h', ⟨u, e, h.nF h1, h.nf h1, upd_same, h2, h3⟩, fun q e => by cases e; exact h1⟩
/-- into its slot -/
theorem TK.put {K : PySem.W.Frag} {S : List Slot} {σ : Sg} {c : Cfg} {v : V} {s : Slot} {i : Nat} {o : Option Addr} (t : TK K c v s o) (h : Holds K S σ c) (hi : i < S.length) :
    ∃ F', (∀ b ∈ F', b ∈ c.F ∨ o = some b) ∧ Holds K (S.set i s) (σ.set i (some v)) ⟨c.Z, c.H, F'⟩ := by
  obtain ⟨A, Fi, B, x, e1, e2, _, up⟩ := h.l.at (List.getElem?_eq_getElem hi)
  have nd := h.nd
  rw [e1] at nd
  cases o with
  | none =>
    refine ⟨A ++ ([] ++ B), fun b m => .inl ?_, ⟨?_, ?_, fun a m => ?_, h.zh⟩⟩
    · rw [e1]
      simp at m ⊢
      rcases m with m | m <;> simp [m]
    · exact up ⟨c.Z, c.H, A ++ ([] ++ B)⟩ s (some v) [] (Same.refl _) (fun _ _ => rfl) t
    · show (A ++ ([] ++ B)).Nodup
      simp only [List.nodup_append, List.mem_append, List.mem_singleton, List.nodup_cons] at nd ⊢
      grind
    · have m' : a ∈ A ++ ([] ++ B) := m
      refine h.zf a ?_
      rw [e1]
      simp at m' ⊢
      rcases m' with m' | m' <;> simp [m']
  | some p =>
    obtain ⟨u, e, h1, h2, h3, h4, h5⟩ := t
    have hF := h1
    rw [e1] at hF
    simp only [List.mem_append, not_or] at hF
    refine ⟨A ++ ([p] ++ B), fun b m => ?_, ⟨?_, ?_, fun a m => ?_, h.zh⟩⟩
    · simp only [List.mem_append, List.mem_singleton] at m
      rcases m with m | m | m
      · exact .inl (by rw [e1]; simp [m])
      · subst m; exact .inr rfl
      · exact .inl (by rw [e1]; simp [m])
    · exact up ⟨c.Z, c.H, A ++ ([p] ++ B)⟩ s (some v) [p] (Same.refl _) (fun _ _ => rfl) h5
    · show (A ++ ([p] ++ B)).Nodup
      simp only [List.nodup_append, List.mem_append, List.mem_singleton, List.nodup_cons] at nd ⊢
      grind
    · have m' : a ∈ A ++ ([p] ++ B) := m
      simp only [List.mem_append, List.mem_singleton] at m'
      rcases m' with m' | m' | m'
      · exact h.zf a (by rw [e1]; simp [m'])
      · subst m'; exact h2
      · exact h.zf a (by rw [e1]; simp [m'])
section
variable {X : Cx} {W : WX} {pos : Pos}
def tK (G : Gx) (f : EM Slot) : TE := fun σ H Q => ∃ S Z F, Holds G.K S σ ⟨Z, H, F⟩ ∧ Go G σ ⟨Z, H, F⟩ (f S) (fun s _ c' => ∀ v c2 o, New G.K c' v s c2 o → Q v c2.H)
def DK (X : Cx) (W : WX) (e : Expr) (f : EM Slot) : Prop := PE X e (tK (gx X W) f)
def vD (f : EM D) : EM Slot := eBind f fun d => eRet (.dat d)
def vO (f : EM (List D)) : EM Slot := eBind f fun ds => eRet (.own ds)
def vM (t : Bool) (f : EM (List (D × D))) : EM Slot := eBind f fun es => eRet (.dic t es)
theorem dk_d {e : Expr} {f : EM D} (h : DE X W e f) : DK X W e (vD f) := by
  refine PE.wk h fun σ H Q q => ?_
  obtain ⟨S, Z, F, h, q⟩ := q
  refine ⟨S, Z, F, h, (Go.bind q).mono fun d S1 c1 s1 h1 q1 v rv => ?_⟩
  exact q1 c1 (Stp.refl _) h1 v c1 none ⟨⟨rfl, v, rfl, rv⟩, rfl⟩
theorem dk_o {e : Expr} {f : EM (List D)} (h : DF X W e f) : DK X W e (vO f) := by
  refine PE.wk h fun σ H Q q => ?_
  obtain ⟨S, Z, F, h, q⟩ := q
  refine ⟨S, Z, F, h, (Go.bind q).mono fun d S1 c1 s1 h1 q1 p vs hp rs => ?_⟩
  exact q1 c1 (Stp.refl _) h1 (.ref p) (c1.tmp p (.lst vs)) (some p) ⟨_, rfl, hp, rfl, (fun _ e => nomatch e), ⟨p, vs, rfl, rfl, upd_same, rs⟩⟩
theorem dk_m {t : Bool} {e : Expr} {f : EM (List (D × D))} (h : DM X W t e f) : DK X W e (vM t f) := by
  refine PE.wk h fun σ H Q q => ?_
  obtain ⟨S, Z, F, h, q⟩ := q
  refine ⟨S, Z, F, h, (Go.bind q).mono fun d S1 c1 s1 h1 q1 p u hp da => ?_⟩
  obtain ⟨u', e1, _, nt⟩ := da.obj
  cases e1
  refine q1 c1 (Stp.refl _) h1 (.ref p) (c1.tmp p u) (some p) ⟨_, rfl, hp, rfl, nt, ⟨p, rfl, rfl, ?_⟩⟩
  show DicAt X.K c1.Z (upd c1.H p u p) t d
  rw [upd_same]
  exact da
def sParK (i j : Nat) (f1 f2 : EM Slot) : SM := sOf f1 fun s1 S1 => sOf f2 (fun s2 S2 => if i < S2.length ∧ j < S2.length then .nx ((S2.set i s1).set j s2) else .bad) S1
theorem par_core {i j : Nat} {S2 : List Slot} {σ : Sg} {c1 c5 : Cfg} {v w : V} {s1 s2 : Slot} {o1 o2 : Option Addr} {Q : Ends} (ST : Stp c1 c5) (h5 : Holds X.K S2 σ c5) (t1 : TK X.K c5 v s1 o1) (t2 : TK X.K c5 w s2 o2)
    (dj : ∀ p, o1 = some p → o2 = some p → False) (w1 : ∀ p, o1 = some p → c1.H p = none) (w2 : ∀ p, o2 = some p → c1.H p = none) (q2 : GoS (gx X W) c1 Q (if i < S2.length ∧ j < S2.length then .nx ((S2.set i s1).set j s2) else .bad)) :
    Q.nx ((σ.set i (some v)).set j (some w)) c5.H := by
  split at q2
  rotate_left
  · exact q2.elim
  rename_i hl
  obtain ⟨F1, f1', h5⟩ := t1.put h5 hl.1
  have t2' : TK X.K ⟨c5.Z, c5.H, F1⟩ w s2 o2 := by
    cases o2 with
    | none => exact SlotOk.tr t2 (Same.refl _) fun _ _ => rfl
    | some p =>
      obtain ⟨u, e, g1, g2, g3, g4, g5⟩ := t2
      refine ⟨u, e, fun m => ?_, g2, g3, g4, g5.tr (Same.refl _) fun _ _ => rfl⟩
      rcases f1' p m with m | m
      · exact g1 m
      · exact dj p m rfl
  obtain ⟨F2, f2', h6⟩ := t2'.put h5 (by rw [List.length_set]; exact hl.2)
  refine q2 _ ⟨c5.Z, c5.H, F2⟩ ⟨ST.z, ST.k, ST.t, ST.n, fun b m => ?_⟩ h6
  rcases f2' b m with m | m
  · rcases f1' b m with m | m
    · exact ST.f b m
    · exact .inr (w1 b m)
  · exact .inr (w2 b m)
theorem par_dj {c c' c'' : Cfg} {v w : V} {s1 s2 : Slot} {o1 o2 : Option Addr} (t : TK X.K c v s1 o1) (w2 : ∀ p, o2 = some p → c.H p = none) : ∀ p, o1 = some p → o2 = some p → False := by
  intro p e1 e2
  subst e1
  obtain ⟨u, _, _, _, k6, _⟩ := t
  rw [w2 p e2] at k6
  cases k6
theorem ds_parK (i j : Nat) {x y : Str} {a b : Expr} {f1 f2 : EM Slot} {px py pt : Pos} {kt k2 pt2} (hc : X.calm = true) (hN : X.N.Nodup) (ha : DK X W a f1) (hb : DK X W b f2) (hij : i ≠ j) (hi : X.N[i]? = some x := by rfl) (hj : X.N[j]? = some y := by rfl)
    (hx : X.env.scope.names.lookup x = some .local := by rfl) (hy : X.env.scope.names.lookup y = some .local := by rfl)
    (hw : swappedStores [.Tuple [.Name x px, .Name y py] kt pt] (.Tuple [a, b] k2 pt2) X.env = pure (some [x, y]) := by rfl)
    (hs : swapsWithSole [.Tuple [.Name x px, .Name y py] kt pt] (.Tuple [a, b] k2 pt2) pos.line X.env = pure false := by rfl)
    (hsa : starEach (a :: [b]) X.env = (false, eval a X.env) :: starEach [b] X.env := by rfl) (hsb : starEach (b :: []) X.env = (false, eval b X.env) :: starEach [] X.env := by rfl) :
    DS X W (.Assign [.Tuple [.Name x px, .Name y py] kt pt] (.Tuple [a, b] k2 pt2) pos) (sParK i j f1 f2) := by
  refine PS.wk (ps_par hc hN hi hj hij hx hy (pa_cons ha (pa_cons hb pa_nil hsb) hsa) hw hs) fun Q σ H q => ?_
  obtain ⟨S, Z, F, h, q⟩ := q
  refine ⟨S, Z, F, h, Go.toS q fun s1 S1 c1 st1 h1 q1 v c2 o1 n1 => ?_⟩
  obtain ⟨st2, h2, t1, w1⟩ := n1.to h1
  refine ⟨S1, c2.Z, c2.F, h2, ?_⟩
  have q2 := q1
  unfold sOf at q2
  cases e2 : f2 S1 with
  | bad => rw [e2] at q2; exact q2.elim
  | ex e S2 =>
    rw [e2] at q2
    exact fun c' cls dx s' o x => q2 σ c' cls dx (st2.trans s') o x
  | ok s2 S2 =>
    rw [e2] at q2
    intro c3 st3 h3 w c4 o2 n2
    obtain ⟨st4, h4, t2, w2⟩ := n2.to h3
    have t3 := t1.step st3
    exact ⟨v, w, rfl, par_core ((st2.trans st3).trans st4) h4 (t3.step st4) t2 (par_dj (c' := c3) (c'' := c3) (w := w) (s2 := s2) t3 w2) w1 (fun p e => (st2.trans st3).was (w2 p e)) q2⟩
/-- .. by way of a pair -/
theorem ds_asgK (i j : Nat) {x y : Str} {a b : Expr} {f1 f2 : EM Slot} {px py pt : Pos} {kt k2 pt2} (hc : X.calm = true) (hN : X.N.Nodup) (ha : DK X W a f1) (hb : DK X W b f2) (hi : X.N[i]? = some x := by rfl) (hj : X.N[j]? = some y := by rfl)
    (hx : Loc X.env.scope x := by first | exact Or.inl rfl | exact Or.inr rfl) (hy : Loc X.env.scope y := by first | exact Or.inl rfl | exact Or.inr rfl)
    (hf : X.fn x = true ∨ X.env.scope.names.lookup x = some .local := by first | exact .inl rfl | exact .inr rfl) (hf2 : X.fn y = true ∨ X.env.scope.names.lookup y = some .local := by first | exact .inl rfl | exact .inr rfl)
    (hw : swappedStores [.Tuple [.Name x px, .Name y py] kt pt] (.Tuple [a, b] k2 pt2) X.env = pure none := by rfl)
    (hs : swapsWithSole [.Tuple [.Name x px, .Name y py] kt pt] (.Tuple [a, b] k2 pt2) pos.line X.env = pure false := by rfl)
    (h1 : (assignEach [.Tuple [.Name x px, .Name y py] kt pt] X.env).map (·.2) = [assign (.Tuple [.Name x px, .Name y py] kt pt) X.env] := by rfl)
    (hn : (assignEach [.Name x px, .Name y py] X.env).length = 2 := by rfl) (hst : (assignEach [.Name x px, .Name y py] X.env).findIdx? (·.1) = none := by rfl)
    (hp1 : (assignEach [.Name x px, .Name y py] X.env).map (·.2) = assign (.Name x px) X.env :: (assignEach [.Name y py] X.env).map (·.2) := by rfl) (hp2 : (assignEach [.Name y py] X.env).map (·.2) = assign (.Name y py) X.env :: (assignEach [] X.env).map (·.2) := by rfl)
    (hsa : starEach (a :: [b]) X.env = (false, eval a X.env) :: starEach [b] X.env := by rfl) (hsb : starEach (b :: []) X.env = (false, eval b X.env) :: starEach [] X.env := by rfl) :
    DS X W (.Assign [.Tuple [.Name x px, .Name y py] kt pt] (.Tuple [a, b] k2 pt2) pos) (sParK i j f1 f2) := by
  refine PS.wk (ps_asg (pe_tup (pa_cons ha (pa_cons hb pa_nil hsb) hsa)) (pg_tup hc (pgs_cons (pg_name hN hi hx hf) (pgs_cons (pg_name hN hj hy hf2) pgs_nil hp2) hp1) hn hst) hs hw h1) fun Q σ H q => ?_
  obtain ⟨S, Z, F, h, q⟩ := q
  refine ⟨S, Z, F, h, Go.toS q fun s1 S1 c1 st1 h1 q1 v c2 o1 n1 => ?_⟩
  obtain ⟨st2, h2, t1, w1⟩ := n1.to h1
  refine ⟨S1, c2.Z, c2.F, h2, ?_⟩
  have q2 := q1
  unfold sOf at q2
  cases e2 : f2 S1 with
  | bad => rw [e2] at q2; exact q2.elim
  | ex e S2 =>
    rw [e2] at q2
    exact fun c' cls dx s' o x => q2 σ c' cls dx (st2.trans s') o x
  | ok s2 S2 =>
    rw [e2] at q2
    intro c3 st3 h3 w c4 o2 n2
    obtain ⟨st4, h4, t2, w2⟩ := n2.to h3
    have t3 := t1.step st3
    refine ⟨show 2 ≤ sizeLine from by decide, fun r hr => ⟨r, [v, w], rfl, SqT.of upd_same, rfl, _, _, rfl, _, _, rfl, rfl, ?_⟩⟩
    obtain ⟨st5, h5⟩ := h4.tmpS (o := .tup [v, w]) hr
    exact par_core ((st2.trans st3).trans (st4.trans st5)) h5 ((t3.step st4).step st5) (t2.step st5) (par_dj (c' := c3) (c'' := c3) (w := w) (s2 := s2) t3 w2) w1 (fun p e => (st2.trans st3).was (w2 p e)) q2
end
/-! plain reasoning -/
section
variable {S : List Slot} {PS : Slot → List Slot → Prop} {Q : Out → Prop}
theorem X_vD {f : EM D} : EpK (vD f) S PS = EpK f S fun d S1 => PS (.dat d) S1 := by
  unfold vD
  simp only [← Ep_K, Ep_bind, Ep_ret]
theorem X_vO {f : EM (List D)} : EpK (vO f) S PS = EpK f S fun d S1 => PS (.own d) S1 := by
  unfold vO
  simp only [← Ep_K, Ep_bind, Ep_ret]
theorem X_vM {t : Bool} {f : EM (List (D × D))} : EpK (vM t f) S PS = EpK f S fun d S1 => PS (.dic t d) S1 := by
  unfold vM
  simp only [← Ep_K, Ep_bind, Ep_ret]
theorem Y_parK {i j : Nat} {f1 f2 : EM Slot} : WpK (sParK i j f1 f2) S Q = EpK f1 S fun s1 S1 => EpK f2 S1 fun s2 S2 => AndK (i < S2.length) (AndK (j < S2.length) (Q (.nx ((S2.set i s1).set j s2)))) := by
  simp only [← Ep_K, ← Wp_K]
  unfold sParK
  rw [Wp_of]
  congr 1
  funext s1 S1
  have h := Wp_of (m := f2) (k := fun s2 S2 => if i < S2.length ∧ j < S2.length then .nx ((S2.set i s1).set j s2) else .bad) (S := S1) (Q := Q)
  unfold Wp at h
  refine Eq.trans (show _ = _ from rfl) (h.trans ?_)
  congr 1
  funext s2 S2
  unfold AndK
  split
  · rename_i hl; simp [hl, okO]
  · rename_i hl
    rw [Classical.not_and_iff_not_or_not] at hl
    rcases hl with hl | hl <;> simp [hl, okO]
end
end FW

/-! FwY: typed data: values of Lean types as data, compared. -/
namespace FW
open PySem PySem.Spec L2
open PyProof.Rows hiding St
class En (α : Type) [DecidableEq α] where
  en : α → D
  nd : ∀ a, noDict (en a) = true
  dp : Nat
  sh : ∀ a, shal dp (en a) = true
  eqv : ∀ a b, PyData.eqv (en a) (en b) = decide (a = b)
structure Tp (α : Type) where
  l : List α
deriving DecidableEq
theorem shal_mono : ∀ (n : Nat) (d : D), shal n d = true → shal (n + 1) d = true
  | 0, d, h => by cases d <;> simp_all [shal]
  | n + 1, d, h => by
    cases d with
    | list xs =>
      have h' : xs.all (shal n) = true := h
      show xs.all (shal (n + 1)) = true
      rw [List.all_eq_true] at h' ⊢
      exact fun x m => shal_mono n x (h' x m)
    | tuple xs =>
      have h' : xs.all (shal n) = true := h
      show xs.all (shal (n + 1)) = true
      rw [List.all_eq_true] at h' ⊢
      exact fun x m => shal_mono n x (h' x m)
    | dict xs => simp [shal] at h
    | _ => rfl
theorem shal_le {n m : Nat} (h : n ≤ m) {d : D} (s : shal n d = true) : shal m d = true := by
  induction h with
  | refl => exact s
  | step _ ih => exact shal_mono _ _ ih
theorem noDictA_all : ∀ ds : List D, noDictA ds = ds.all noDict
  | [] => rfl
  | d :: ds => by rw [noDictA, List.all_cons, noDictA_all ds]
section
variable {α β : Type} [DecidableEq α] [DecidableEq β] [En α] [En β]
theorem eqvAll_en : ∀ xs ys : List α, PyData.eqvAll (xs.map En.en) (ys.map En.en) = decide (xs = ys)
  | [], [] => by simp only [List.map_nil, PyData.eqvAll, decide_true]
  | [], _ :: _ => by simp [PyData.eqvAll]
  | _ :: _, [] => by simp [PyData.eqvAll]
  | x :: xs, y :: ys => by
    rw [List.map_cons, List.map_cons, PyData.eqvAll, En.eqv x y, eqvAll_en xs ys, ← Bool.decide_and]
    exact decide_eq_decide.mpr (by rw [List.cons.injEq])
theorem nd_en (xs : List α) : noDictA (xs.map En.en) = true := by
  rw [noDictA_all, List.all_eq_true]
  intro d hd
  obtain ⟨a, _, rfl⟩ := List.mem_map.mp hd
  exact En.nd a
theorem sh_en (xs : List α) : (xs.map En.en).all (shal (En.dp α)) = true := by
  rw [List.all_eq_true]
  intro d hd
  obtain ⟨a, _, rfl⟩ := List.mem_map.mp hd
  exact En.sh a
end
theorem beq_dec {α : Type} [BEq α] [LawfulBEq α] [DecidableEq α] (a b : α) : (a == b) = decide (a = b) := by
  rw [Bool.eq_iff_iff, beq_iff_eq, decide_eq_true_eq]
instance : En Int := ⟨PyData.int, fun _ => rfl, 0, fun _ => rfl, fun a b => by simp only [PyData.eqv]; exact beq_dec a b⟩
instance : En Bool := ⟨PyData.bool, fun _ => rfl, 0, fun _ => rfl, fun a b => by simp only [PyData.eqv]; exact beq_dec a b⟩
instance : En Str := ⟨PyData.str, fun _ => rfl, 0, fun _ => rfl, fun a b => by simp only [PyData.eqv]; exact beq_dec a b⟩
instance : En Nat := ⟨nI, fun _ => rfl, 0, fun _ => rfl, fun a b => by
  unfold nI
  simp only [PyData.eqv]
  rw [beq_dec]
  exact decide_eq_decide.mpr ⟨Int.ofNat.inj, fun e => by rw [e]⟩⟩
instance {α : Type} [DecidableEq α] [En α] : En (List α) := ⟨fun xs => .list (xs.map En.en), fun xs => nd_en xs, En.dp α + 1, fun xs => sh_en xs, fun xs ys => by simp only [PyData.eqv]; exact eqvAll_en xs ys⟩
instance {α : Type} [DecidableEq α] [En α] : En (Tp α) := ⟨fun xs => .tuple (xs.l.map En.en), fun xs => nd_en xs.l, En.dp α + 1, fun xs => sh_en xs.l, fun xs ys => by
  simp only [PyData.eqv]
  rw [eqvAll_en]
  exact decide_eq_decide.mpr ⟨fun e => by cases xs; cases ys; exact congrArg Tp.mk e, fun e => by rw [e]⟩⟩
instance {α β : Type} [DecidableEq α] [DecidableEq β] [En α] [En β] : En (α × β) := ⟨fun p => .tuple [En.en p.1, En.en p.2], fun p => by simp [noDict, noDictA, En.nd], max (En.dp α) (En.dp β) + 1, fun p => by
  show [En.en p.1, En.en p.2].all (shal (max (En.dp α) (En.dp β))) = true
  simp only [List.all_cons, List.all_nil, Bool.and_true]
  rw [shal_le (Nat.le_max_left _ _) (En.sh p.1), shal_le (Nat.le_max_right _ _) (En.sh p.2)]
  rfl, fun p q => by
  simp only [PyData.eqv, PyData.eqvAll]
  rw [En.eqv, En.eqv, Bool.and_true, ← Bool.decide_and]
  exact decide_eq_decide.mpr ⟨fun e => Prod.ext e.1 e.2, fun e => by rw [e]; exact ⟨rfl, rfl⟩⟩⟩
section
variable {α : Type} [DecidableEq α] [En α]
theorem cmp_en (h : En.dp α ≤ 8 := by decide) (a b : α) : cmpOk (En.en a) (En.en b) = true := by
  unfold cmpOk shal2
  rw [En.nd, En.nd, shal_le h (En.sh a)]
  rfl
theorem eqD_en (h : En.dp α ≤ 8 := by decide) (a b : α) : eqD (En.en a) (En.en b) = some (.bool (decide (a = b))) := by
  unfold eqD
  rw [if_pos (cmp_en h a b), En.eqv]
theorem neD_en (h : En.dp α ≤ 8 := by decide) (a b : α) : neD (En.en a) (En.en b) = some (.bool (!decide (a = b))) := by
  unfold neD
  rw [if_pos (cmp_en h a b), En.eqv]
end
theorem eqD_lN (a b : List Nat) : eqD (.list (a.map nI)) (.list (b.map nI)) = some (.bool (decide (a = b))) := eqD_en (α := List Nat) (by decide) a b
theorem neD_lN (a b : List Nat) : neD (.list (a.map nI)) (.list (b.map nI)) = some (.bool (!decide (a = b))) := neD_en (α := List Nat) (by decide) a b
theorem eqD_tN (a b : List Nat) : eqD (.tuple (a.map nI)) (.tuple (b.map nI)) = some (.bool (decide (a = b))) := by
  have e := eqD_en (α := Tp Nat) (by decide) ⟨a⟩ ⟨b⟩
  refine e.trans ?_
  congr 2
  exact decide_eq_decide.mpr ⟨fun e => Tp.mk.inj e, fun e => by rw [e]⟩
theorem neD_tN (a b : List Nat) : neD (.tuple (a.map nI)) (.tuple (b.map nI)) = some (.bool (!decide (a = b))) := by
  have e := neD_en (α := Tp Nat) (by decide) ⟨a⟩ ⟨b⟩
  refine e.trans ?_
  congr 2
  rw [decide_eq_decide.mpr (show (⟨a⟩ : Tp Nat) = ⟨b⟩ ↔ a = b from ⟨fun e => Tp.mk.inj e, fun e => by rw [e]⟩)]
mutual
theorem eqv_self : ∀ d : D, noDict d = true → PyData.eqv d d = true
  | .none, _ => by simp only [PyData.eqv]
  | .bool b, _ => by simp only [PyData.eqv, beq_self_eq_true]
  | .int b, _ => by simp only [PyData.eqv, beq_self_eq_true]
  | .str b, _ => by simp only [PyData.eqv, beq_self_eq_true]
  | .list xs, h => by simp only [PyData.eqv]; exact eqvA_self xs h
  | .tuple xs, h => by simp only [PyData.eqv]; exact eqvA_self xs h
  | .dict _, h => nomatch h
theorem eqvA_self : ∀ ds : List D, noDictA ds = true → PyData.eqvAll ds ds = true
  | [], _ => by simp only [PyData.eqvAll]
  | d :: ds, h => by
    rw [noDictA, Bool.and_eq_true] at h
    simp only [PyData.eqvAll, eqv_self d h.1, eqvA_self ds h.2, Bool.and_self]
end
theorem eqD_self {d : D} (h : noDict d = true) (s : shal 8 d = true) : eqD d d = some (.bool true) := by
  unfold eqD
  rw [if_pos (by unfold cmpOk shal2; rw [h, s]; rfl), eqv_self d h]
theorem neD_self {d : D} (h : noDict d = true) (s : shal 8 d = true) : neD d d = some (.bool false) := by
  unfold neD
  rw [if_pos (by unfold cmpOk shal2; rw [h, s]; rfl), eqv_self d h]
  rfl
theorem neD_selfE {α : Type} [DecidableEq α] [En α] (h : En.dp α ≤ 8 := by decide) (a : α) : neD (En.en a) (En.en a) = some (.bool false) := by
  rw [neD_en h]
  simp
theorem en_nat (k : Nat) : En.en k = nI k := rfl
/-! kinds -/
def wholeB (lo hi : Int) : D → Bool
  | .int i => decide (lo ≤ i) && decide (i ≤ hi)
  | _ => false
theorem isi_mk {T : String} {d : D} {b : Bool} (h1 : notDict d = true) (h2 : kitB (tyName d) T = some b) : isiD T d = some (.bool b) := by
  unfold isiD
  rw [if_pos h1, h2]
  rfl
theorem kb_int_i : kitB "int" "int" = some true := by decide +kernel
theorem isi_int_i {i : Int} : isiD "int" (.int i) = some (.bool true) := isi_mk rfl kb_int_i
theorem kb_int_b : kitB "bool" "int" = some true := by decide +kernel
theorem isi_int_b {i : Bool} : isiD "int" (.bool i) = some (.bool true) := isi_mk rfl kb_int_b
theorem kb_int_n : kitB "NoneType" "int" = some false := by decide +kernel
theorem isi_int_n  : isiD "int" .none = some (.bool false) := isi_mk rfl kb_int_n
theorem kb_int_s : kitB "str" "int" = some false := by decide +kernel
theorem isi_int_s {x : Str} : isiD "int" (.str x) = some (.bool false) := isi_mk rfl kb_int_s
theorem kb_int_l : kitB "list" "int" = some false := by decide +kernel
theorem isi_int_l {x : List D} : isiD "int" (.list x) = some (.bool false) := isi_mk rfl kb_int_l
theorem kb_int_t : kitB "tuple" "int" = some false := by decide +kernel
theorem isi_int_t {x : List D} : isiD "int" (.tuple x) = some (.bool false) := isi_mk rfl kb_int_t
theorem kb_bool_i : kitB "int" "bool" = some false := by decide +kernel
theorem isi_bool_i {i : Int} : isiD "bool" (.int i) = some (.bool false) := isi_mk rfl kb_bool_i
theorem kb_bool_b : kitB "bool" "bool" = some true := by decide +kernel
theorem isi_bool_b {i : Bool} : isiD "bool" (.bool i) = some (.bool true) := isi_mk rfl kb_bool_b
theorem kb_bool_n : kitB "NoneType" "bool" = some false := by decide +kernel
theorem isi_bool_n  : isiD "bool" .none = some (.bool false) := isi_mk rfl kb_bool_n
theorem kb_bool_s : kitB "str" "bool" = some false := by decide +kernel
theorem isi_bool_s {x : Str} : isiD "bool" (.str x) = some (.bool false) := isi_mk rfl kb_bool_s
theorem kb_bool_l : kitB "list" "bool" = some false := by decide +kernel
theorem isi_bool_l {x : List D} : isiD "bool" (.list x) = some (.bool false) := isi_mk rfl kb_bool_l
theorem kb_bool_t : kitB "tuple" "bool" = some false := by decide +kernel
theorem isi_bool_t {x : List D} : isiD "bool" (.tuple x) = some (.bool false) := isi_mk rfl kb_bool_t
theorem kb_tup_i : kitB "int" "tuple" = some false := by decide +kernel
theorem isi_tup_i {i : Int} : isiD "tuple" (.int i) = some (.bool false) := isi_mk rfl kb_tup_i
theorem kb_tup_b : kitB "bool" "tuple" = some false := by decide +kernel
theorem isi_tup_b {i : Bool} : isiD "tuple" (.bool i) = some (.bool false) := isi_mk rfl kb_tup_b
theorem kb_tup_n : kitB "NoneType" "tuple" = some false := by decide +kernel
theorem isi_tup_n  : isiD "tuple" .none = some (.bool false) := isi_mk rfl kb_tup_n
theorem kb_tup_s : kitB "str" "tuple" = some false := by decide +kernel
theorem isi_tup_s {x : Str} : isiD "tuple" (.str x) = some (.bool false) := isi_mk rfl kb_tup_s
theorem kb_tup_l : kitB "list" "tuple" = some false := by decide +kernel
theorem isi_tup_l {x : List D} : isiD "tuple" (.list x) = some (.bool false) := isi_mk rfl kb_tup_l
theorem kb_tup_t : kitB "tuple" "tuple" = some true := by decide +kernel
theorem isi_tup_t {x : List D} : isiD "tuple" (.tuple x) = some (.bool true) := isi_mk rfl kb_tup_t
theorem kb_lst_i : kitB "int" "list" = some false := by decide +kernel
theorem isi_lst_i {i : Int} : isiD "list" (.int i) = some (.bool false) := isi_mk rfl kb_lst_i
theorem kb_lst_b : kitB "bool" "list" = some false := by decide +kernel
theorem isi_lst_b {i : Bool} : isiD "list" (.bool i) = some (.bool false) := isi_mk rfl kb_lst_b
theorem kb_lst_n : kitB "NoneType" "list" = some false := by decide +kernel
theorem isi_lst_n  : isiD "list" .none = some (.bool false) := isi_mk rfl kb_lst_n
theorem kb_lst_s : kitB "str" "list" = some false := by decide +kernel
theorem isi_lst_s {x : Str} : isiD "list" (.str x) = some (.bool false) := isi_mk rfl kb_lst_s
theorem kb_lst_l : kitB "list" "list" = some true := by decide +kernel
theorem isi_lst_l {x : List D} : isiD "list" (.list x) = some (.bool true) := isi_mk rfl kb_lst_l
theorem kb_lst_t : kitB "tuple" "list" = some false := by decide +kernel
theorem isi_lst_t {x : List D} : isiD "list" (.tuple x) = some (.bool false) := isi_mk rfl kb_lst_t
theorem kb_str_i : kitB "int" "str" = some false := by decide +kernel
theorem isi_str_i {i : Int} : isiD "str" (.int i) = some (.bool false) := isi_mk rfl kb_str_i
theorem kb_str_b : kitB "bool" "str" = some false := by decide +kernel
theorem isi_str_b {i : Bool} : isiD "str" (.bool i) = some (.bool false) := isi_mk rfl kb_str_b
theorem kb_str_n : kitB "NoneType" "str" = some false := by decide +kernel
theorem isi_str_n  : isiD "str" .none = some (.bool false) := isi_mk rfl kb_str_n
theorem kb_str_s : kitB "str" "str" = some true := by decide +kernel
theorem isi_str_s {x : Str} : isiD "str" (.str x) = some (.bool true) := isi_mk rfl kb_str_s
theorem kb_str_l : kitB "list" "str" = some false := by decide +kernel
theorem isi_str_l {x : List D} : isiD "str" (.list x) = some (.bool false) := isi_mk rfl kb_str_l
theorem kb_str_t : kitB "tuple" "str" = some false := by decide +kernel
theorem isi_str_t {x : List D} : isiD "str" (.tuple x) = some (.bool false) := isi_mk rfl kb_str_t
/-! small facts -/
theorem lenD_ln {xs : List Nat} : lenD [.list (xs.map nI)] = some (.int (xs.length : Nat)) := by rw [lenD_l, List.length_map]
theorem lenD_tn {xs : List Nat} : lenD [.tuple (xs.map nI)] = some (.int (xs.length : Nat)) := by rw [lenD_t, List.length_map]
theorem tupleD_l {ds : List D} : tupleD [.list ds] = some (.tuple ds) := rfl
theorem tupleD_t {ds : List D} : tupleD [.tuple ds] = some (.tuple ds) := rfl
theorem listD_l {ds : List D} : listD [.list ds] = some ds := rfl
theorem listD_t {ds : List D} : listD [.tuple ds] = some ds := rfl
theorem intD_i {i : Int} : intD [.int i] = some (.int i) := rfl
theorem walk_l {ds : List D} : walkA (.list ds) = some ds := rfl
theorem walk_t {ds : List D} : walkA (.tuple ds) = some ds := rfl
theorem sumD_map (ns : List Int) : sumD [.list (ns.map PyData.int)] = some (.int ns.sum) := by
  show (allI (ns.map PyData.int)).map _ = _
  rw [allI_map]
  rfl
theorem allI_nI (ns : List Nat) : allI (ns.map nI) = some (ns.map Int.ofNat) := by
  have e : ns.map nI = (ns.map Int.ofNat).map PyData.int := by rw [List.map_map]; rfl
  rw [e, allI_map]
theorem allD_map {α : Type} (xs : List α) (p : α → Bool) : allD [.list (xs.map fun x => .bool (p x))] = some (.bool (xs.all p)) := by
  have e : (xs.map fun x => PyData.bool (p x)) = (xs.map p).map PyData.bool := by rw [List.map_map]; rfl
  show (allB (xs.map fun x => PyData.bool (p x))).map _ = _
  rw [e, allB_map]
  simp
theorem anyD_map {α : Type} (xs : List α) (p : α → Bool) : anyD [.list (xs.map fun x => .bool (p x))] = some (.bool (xs.any p)) := by
  have e : (xs.map fun x => PyData.bool (p x)) = (xs.map p).map PyData.bool := by rw [List.map_map]; rfl
  show (allB (xs.map fun x => PyData.bool (p x))).map _ = _
  rw [e, allB_map]
  simp
theorem lr1_ok {n : Nat} (h : n ≤ 1000000) : lr1 (.int (n : Nat)) = some ((List.range n).map nI) := by
  have e : lr1 (.int (n : Nat)) = (if rgOk 0 n then some (intsD 0 ((n : Int) - 0).toNat) else none) := rfl
  have b : rgOk 0 (n : Int) = true := by
    unfold rgOk
    simp
    omega
  rw [e, if_pos b]
  unfold intsD
  simp
  exact fun _ _ => rfl
theorem lr2_ok {i j : Nat} (hi : i ≤ 1000000) (h : j ≤ 1000000) : lr2 (.int (i : Nat)) (.int (j : Nat)) = some ((List.range (j - i)).map fun k => nI (i + k)) := by
  have e : lr2 (.int (i : Nat)) (.int (j : Nat)) = (if rgOk i j then some (intsD i ((j : Int) - i).toNat) else none) := rfl
  have b : rgOk (i : Int) (j : Int) = true := by
    unfold rgOk
    simp
    omega
  rw [e, if_pos b]
  unfold intsD
  have : ((j : Int) - i).toNat = j - i := by omega
  rw [this]
  congr 1
theorem list_range {n : Nat} : (List.range n).map (fun i => PyData.int (i : Nat)) = (List.range n).map nI := rfl
/-! draws -/
theorem RwK_takeW {a : Addr} {k : Int} {ns : List Int} {n : Int} {P : D → Int → List Int → Prop} (h : DrawOk ns) (hn : n < 2 ^ 200) (q : ∀ (r : Nat) (k' : Int) (ns' : List Int), DrawOk ns' → (1 ≤ n → (r : Int) < n) → (n ≤ 1 → r = 0) → P (.int r) k' ns') : RwK (takeW a k ns [.int n]) P := by
  obtain ⟨r, k', ns', e, h1, h2, h3, h4⟩ := takeL_ok k h (m := n) hn
  obtain ⟨r, rfl⟩ := Int.eq_ofNat_of_zero_le h2
  refine ⟨.int r, k', ns', ?_, q r k' ns' h1 (fun z => h4 z) (fun z => by have := h3 (by omega); omega)⟩
  unfold takeW
  simp only [e]
end FW

/-! FwZ: loops and comprehensions over typed items; slots that nobody looks at again. -/
namespace FW
open PySem PySem.Spec L2
open PyProof.Rows hiding St
/-- a slot that nobody looks at again -/
def gv : Option D → Slot
  | none => .un
  | some d => .dat d
theorem plain_gv {o : Option D} : plainSlot (gv o) = true := by cases o <;> rfl
theorem comp_mapG {α : Type} (enc : α → D) {own : List Nat} {g : Tg} {t : EM Bool} {e : EM D} (base : List Slot) (p : α → Bool) (f : α → D) : ∀ (xs : List α), (∀ x ∈ xs, ∃ S1, g (enc x) base = some S1 ∧ wipeS own S1 = base ∧ Ep t S1 fun b S2 => b = p x ∧ S2 = S1 ∧ (b = true → Ep e S1 fun y S3 => y = f x ∧ S3 = S1)) →
    compL own g t e (xs.map enc) base = .ok ((xs.filter p).map f) base
  | [], _ => rfl
  | x :: xs, h => by
    obtain ⟨S1, e1, e3, b, S2, e2, rfl, rfl, e4⟩ := h x List.mem_cons_self
    have ih := comp_mapG enc base p f xs fun d' m => h d' (List.mem_cons_of_mem _ m)
    rw [List.map_cons]
    unfold compL
    rw [e1]
    simp only
    rw [e2]
    cases hp : p x with
    | true =>
      obtain ⟨y, S3, e5, rfl, rfl⟩ := e4 hp
      simp only
      rw [e5]
      simp only
      rw [e3, ih, List.filter_cons_of_pos hp]
      rfl
    | false =>
      simp only
      rw [e3, ih, List.filter_cons_of_neg (by rw [hp]; simp)]
section
variable {α : Type} {S : List Slot} {PL : List D → List Slot → Prop} {Q : Out → Prop}
/-- [e for v in xs if t] -/
theorem E_selG (enc : α → D) {v : Nat} {src : EM (List D)} {t : EM Bool} {e : EM D} (xs : List α) (p : α → Bool) (f : α → D) (h0 : Ep src S fun ds' S1 => ds' = xs.map enc ∧ S1 = S) (hv : v < S.length) (pl : plainAt [v] S = true) (hs : xs.length ≤ 1000000)
    (ht : ∀ x ∈ xs, Ep t (S.set v (.dat (enc x))) fun b S3 => b = p x ∧ S3 = S.set v (.dat (enc x))) (he : ∀ x ∈ xs, p x = true → Ep e (S.set v (.dat (enc x))) fun y S3 => y = f x ∧ S3 = S.set v (.dat (enc x))) (q : PL ((xs.filter p).map f) S) : Ep (eComp [v] src (gN v) t e) S PL := by
  obtain ⟨ds, S1, e1, rfl, rfl⟩ := h0
  refine ⟨_, S1, ?_, q⟩
  unfold eComp eBind
  rw [e1]
  have hsm : small (xs.map enc).length = true := small_of (by rw [List.length_map]; exact hs)
  simp only [pl, hsm, Bool.and_self, if_true]
  rw [comp_mapG enc (wipeS [v] S1) p f xs fun x hx => ⟨S1.set v (.dat (enc x)), ?_, ?_, ?_⟩]
  · simp only [wipe1, rest1 hv]
  · rw [wipe1]
    unfold gN
    rw [if_pos (by rw [List.length_set]; exact hv), List.set_set]
  · rw [wipe1, wipe1, List.set_set]
  · refine (ht x hx).mono fun b S3 h => ?_
    obtain ⟨rfl, rfl⟩ := h
    exact ⟨rfl, rfl, fun hb => he x hx hb⟩
/-- [e for v in xs] -/
theorem E_mapG (enc : α → D) {v : Nat} {src : EM (List D)} {e : EM D} (xs : List α) (f : α → D) (h0 : Ep src S fun ds' S1 => ds' = xs.map enc ∧ S1 = S) (hv : v < S.length) (pl : plainAt [v] S = true) (hs : xs.length ≤ 1000000)
    (he : ∀ x ∈ xs, Ep e (S.set v (.dat (enc x))) fun y S3 => y = f x ∧ S3 = S.set v (.dat (enc x))) (q : PL (xs.map f) S) : Ep (eComp [v] src (gN v) bYes e) S PL := by
  refine E_selG enc xs (fun _ => true) f h0 hv pl hs (fun d _ => ?_) (fun d hd _ => he d hd) ?_
  · rw [Ep_yes]
    exact ⟨rfl, rfl⟩
  · rw [List.filter_eq_self.mpr fun _ _ => rfl]
    exact q
/-! loops -/
theorem for_E {β γ : Type} (enc : α → D) {g : Tg} {body : SM} (st : β → γ → List Slot) (step : β → α → β) (I : Nat → β → Prop) (xs0 : List α) (h : ∀ i x, xs0[i]? = some x → ∀ s c, I i s → I (i + 1) (step s x) ∧ ∃ S1, g (enc x) (st s c) = some S1 ∧ Wp body S1 fun o => ∃ c', o = .nx (st (step s x) c') ∨ o = .ct (st (step s x) c')) :
    ∀ (xs : List α) (i : Nat) (s : β) (c : γ), xs = xs0.drop i → I i s → ∃ c', forL g body (xs.map enc) (st s c) = .nx (st (xs.foldl step s) c') ∧ I (i + xs.length) (xs.foldl step s)
  | [], i, s, c, _, hs => ⟨c, rfl, hs⟩
  | x :: xs, i, s, c, ed, hs => by
    have e0 : xs0[i]? = some x := by
      have := congrArg List.head? ed
      simpa [List.head?_drop] using this.symm
    have e3 : xs = xs0.drop (i + 1) := by
      have := congrArg List.tail ed
      simpa [List.tail_drop] using this
    obtain ⟨h1, S1, e1, e2⟩ := h i x e0 s c hs
    rw [List.map_cons]
    unfold forL
    rw [e1]
    obtain ⟨_, c1, e2⟩ := e2
    obtain ⟨c2, ih, hi⟩ := for_E enc st step I xs0 h xs (i + 1) (step s x) c1 e3 h1
    rw [show i + 1 + xs.length = i + (x :: xs).length by simp; omega] at hi
    refine ⟨c2, ?_, hi⟩
    rcases e2 with e2 | e2
    · simp only [e2]
      exact ih
    · simp only [e2]
      exact ih
/-- a loop over typed items, with slots that nobody looks at -/
theorem W_forE {β γ : Type} (enc : α → D) {g : Tg} {body : SM} {xs : List α} (st : β → γ → List Slot) (step : β → α → β) (I : Nat → β → Prop) (s : β) (c : γ) (hs : I 0 s)
    (h : ∀ i x, xs[i]? = some x → ∀ s c, I i s → I (i + 1) (step s x) ∧ ∃ S1, g (enc x) (st s c) = some S1 ∧ Wp body S1 fun o => ∃ c', o = .nx (st (step s x) c') ∨ o = .ct (st (step s x) c'))
    (q : ∀ c', I xs.length (xs.foldl step s) → Q (.nx (st (xs.foldl step s) c'))) : Wp (fun S => forL g body (xs.map enc) S) (st s c) Q := by
  obtain ⟨c', e, i⟩ := for_E enc st step I xs h xs 0 s c rfl hs
  rw [Nat.zero_add] at i
  unfold Wp
  simp only [e]
  exact ⟨rfl, q c' i⟩
/-- a loop whose turns leave what stands there as it is -/
theorem W_forC {γ : Type} (enc : α → D) {g : Tg} {body : SM} {xs : List α} (st : γ → List Slot) (c : γ)
    (h : ∀ x ∈ xs, ∀ c, ∃ S1, g (enc x) (st c) = some S1 ∧ Wp body S1 fun o => ∃ c', o = .nx (st c') ∨ o = .ct (st c')) (q : ∀ c', Q (.nx (st c'))) : Wp (fun S => forL g body (xs.map enc) S) (st c) Q :=
  W_forE (β := Unit) enc (fun _ c => st c) (fun _ _ => ()) (fun _ _ => True) () c trivial (fun i x hx _ c _ => ⟨trivial, h x (List.mem_of_getElem? hx) c⟩) (fun c' _ => q c')
/-- a loop that may give back something: the state before the item at which it does -/
theorem for_R {β γ : Type} (enc : α → D) {g : Tg} {body : SM} (st : β → γ → List Slot) (step : β → α → β) (stop : β → α → Bool) (ret : β → α → D) (I : Nat → β → Prop) (xs0 : List α) (h : ∀ i x, xs0[i]? = some x → ∀ s c, I i s → ∃ S1, g (enc x) (st s c) = some S1 ∧
      ((stop s x = false ∧ I (i + 1) (step s x) ∧ Wp body S1 fun o => ∃ c', o = .nx (st (step s x) c') ∨ o = .ct (st (step s x) c')) ∨ (stop s x = true ∧ Wp body S1 fun o => ∃ S', o = .rt (ret s x) S'))) :
    ∀ (xs : List α) (i : Nat) (s : β) (c : γ), xs = xs0.drop i → I i s → (∃ c', forL g body (xs.map enc) (st s c) = .nx (st (xs.foldl step s) c') ∧ I (i + xs.length) (xs.foldl step s) ∧ ∀ j x, xs[j]? = some x → stop ((xs.take j).foldl step s) x = false) ∨
      ∃ j x S', xs[j]? = some x ∧ (∀ j' x', j' < j → xs[j']? = some x' → stop ((xs.take j').foldl step s) x' = false) ∧ stop ((xs.take j).foldl step s) x = true ∧ I (i + j) ((xs.take j).foldl step s) ∧ forL g body (xs.map enc) (st s c) = .rt (ret ((xs.take j).foldl step s) x) S'
  | [], i, s, c, _, hs => .inl ⟨c, rfl, hs, fun j x hx => by simp at hx⟩
  | x :: xs, i, s, c, ed, hs => by
    have e0 : xs0[i]? = some x := by
      have := congrArg List.head? ed
      simpa [List.head?_drop] using this.symm
    have e3 : xs = xs0.drop (i + 1) := by
      have := congrArg List.tail ed
      simpa [List.tail_drop] using this
    obtain ⟨S1, e1, h2⟩ := h i x e0 s c hs
    rw [List.map_cons]
    unfold forL
    rw [e1]
    rcases h2 with ⟨hs1, h1, _, c1, e2⟩ | ⟨hs1, _, S', e2⟩
    · rcases for_R enc st step stop ret I xs0 h xs (i + 1) (step s x) c1 e3 h1 with ⟨c2, ih, hi, hall⟩ | ⟨j, y, S', hj, hall, hst, hI, ih⟩
      · refine .inl ⟨c2, ?_, ?_, fun j y hy => ?_⟩
        · rcases e2 with e2 | e2
          · simp only [e2]
            exact ih
          · simp only [e2]
            exact ih
        · rw [show i + (x :: xs).length = i + 1 + xs.length by simp; omega]
          exact hi
        · cases j with
          | zero =>
            simp at hy
            subst hy
            exact hs1
          | succ j => exact hall j y (by simpa using hy)
      · refine .inr ⟨j + 1, y, S', by simpa using hj, fun j' y' hj' hy' => ?_, hst, ?_, ?_⟩
        · cases j' with
          | zero =>
            simp at hy'
            subst hy'
            exact hs1
          | succ j' => exact hall j' y' (by omega) (by simpa using hy')
        · rw [show i + (j + 1) = i + 1 + j by omega]
          exact hI
        · rcases e2 with e2 | e2
          · simp only [e2]
            exact ih
          · simp only [e2]
            exact ih
    · exact .inr ⟨0, x, S', rfl, fun j' _ hj' => by omega, hs1, hs, by simp only [e2]; rfl⟩
theorem W_forR {β γ : Type} (enc : α → D) {g : Tg} {body : SM} {xs : List α} (st : β → γ → List Slot) (step : β → α → β) (stop : β → α → Bool) (ret : β → α → D) (I : Nat → β → Prop) (s : β) (c : γ) (hs : I 0 s) (h : ∀ i x, xs[i]? = some x → ∀ s c, I i s → ∃ S1, g (enc x) (st s c) = some S1 ∧
      ((stop s x = false ∧ I (i + 1) (step s x) ∧ Wp body S1 fun o => ∃ c', o = .nx (st (step s x) c') ∨ o = .ct (st (step s x) c')) ∨ (stop s x = true ∧ Wp body S1 fun o => ∃ S', o = .rt (ret s x) S')))
    (q1 : ∀ c', I xs.length (xs.foldl step s) → (∀ j x, xs[j]? = some x → stop ((xs.take j).foldl step s) x = false) → Q (.nx (st (xs.foldl step s) c')))
    (q2 : ∀ j x S', xs[j]? = some x → (∀ j' x', j' < j → xs[j']? = some x' → stop ((xs.take j').foldl step s) x' = false) → stop ((xs.take j).foldl step s) x = true → I j ((xs.take j).foldl step s) → Q (.rt (ret ((xs.take j).foldl step s) x) S')) : Wp (fun S => forL g body (xs.map enc) S) (st s c) Q := by
  unfold Wp
  rcases for_R enc st step stop ret I xs h xs 0 s c rfl hs with ⟨c2, ih, hi, hall⟩ | ⟨j, y, S', hj, hall, hst, hI, ih⟩
  · simp only [ih]
    rw [Nat.zero_add] at hi
    exact ⟨rfl, q1 c2 hi hall⟩
  · simp only [ih]
    rw [Nat.zero_add] at hI
    exact ⟨rfl, q2 j y S' hj hall hst hI⟩
/-- the plain case: no state is carried, the first item that is bad makes it give back the same -/
theorem W_forT {γ : Type} (enc : α → D) {g : Tg} {body : SM} {xs : List α} (st : γ → List Slot) (stop : α → Bool) (d : D) (c : γ) (h : ∀ x ∈ xs, ∀ c, ∃ S1, g (enc x) (st c) = some S1 ∧
      Wp body S1 fun o => (stop x = false ∧ ∃ c', o = .nx (st c') ∨ o = .ct (st c')) ∨ (stop x = true ∧ ∃ S', o = .rt d S'))
    (q1 : ∀ c', (∀ x ∈ xs, stop x = false) → Q (.nx (st c'))) (q2 : ∀ S', (∃ x ∈ xs, stop x = true) → Q (.rt d S')) : Wp (fun S => forL g body (xs.map enc) S) (st c) Q := by
  refine W_forR (β := Unit) enc (fun _ c => st c) (fun _ _ => ()) (fun _ x => stop x) (fun _ _ => d) (fun _ _ => True) () c trivial (fun i x hx _ c _ => ?_) (fun c' _ hall => q1 c' fun x hx => ?_) (fun j x S' hx _ hst _ => q2 S' ⟨x, List.mem_of_getElem? hx, hst⟩)
  · obtain ⟨S1, e1, e2, e3⟩ := h x (List.mem_of_getElem? hx) c
    refine ⟨S1, e1, ?_⟩
    rcases e3 with ⟨hs, e3⟩ | ⟨hs, e3⟩
    · exact .inl ⟨hs, trivial, e2, e3⟩
    · exact .inr ⟨hs, e2, e3⟩
  · obtain ⟨i, hi⟩ := List.mem_iff_getElem?.mp hx
    exact hall i x hi
/-! draws -/
theorem All2.nats {m : Nat} : ∀ {ds ys : List D}, All2 (fun _ y => ∃ r : Nat, y = .int r ∧ r < m) ds ys → ∃ xs : List Nat, ys = xs.map nI ∧ xs.length = ds.length ∧ ∀ x ∈ xs, x < m
  | _, _, .nil => ⟨[], rfl, rfl, fun _ h => nomatch h⟩
  | _, _, .cons h t => by
    obtain ⟨r, rfl, hr⟩ := h
    obtain ⟨xs, rfl, hl, hx⟩ := All2.nats t
    exact ⟨r :: xs, rfl, by simp [hl], fun x hm => (List.mem_cons.mp hm).elim (fun e => e ▸ hr) (hx x)⟩
/-- .. of anything typed -/
theorem All2.typed {α : Type} (enc : α → D) (p : α → Prop) : ∀ {ds ys : List D}, All2 (fun _ y => ∃ r : α, y = enc r ∧ p r) ds ys → ∃ xs : List α, ys = xs.map enc ∧ xs.length = ds.length ∧ ∀ x ∈ xs, p x
  | _, _, .nil => ⟨[], rfl, rfl, fun _ h => nomatch h⟩
  | _, _, .cons h t => by
    obtain ⟨r, rfl, hr⟩ := h
    obtain ⟨xs, rfl, hl, hx⟩ := All2.typed enc p t
    exact ⟨r :: xs, rfl, by simp [hl], fun x hm => (List.mem_cons.mp hm).elim (fun e => e ▸ hr) (hx x)⟩
/-- tuple([draw for v in range(n)]) -/
theorem E_drawN {v w : Nat} {src : EM (List D)} {e : EM D} {a : Addr} {k : Int} {ns : List Int} (n m : Nat) (hw : S[w]? = some (.drw a k ns)) (hn : DrawOk ns) (hvw : v ≠ w) (h0 : Ep src S fun ds' S1 => ds' = (List.range n).map nI ∧ S1 = S) (hv : v < S.length) (pl : plainAt [v] S = true) (hs : n ≤ 1000000)
    (he : ∀ i < n, ∀ k ns, DrawOk ns → Ep e ((S.set w (.drw a k ns)).set v (.dat (.int i))) fun y S3 => (∃ r : Nat, y = .int r ∧ r < m) ∧ ∃ k' ns', DrawOk ns' ∧ S3 = (S.set w (.drw a k' ns')).set v (.dat (.int i)))
    (q : ∀ (xs : List Nat) k' ns', DrawOk ns' → xs.length = n → (∀ x ∈ xs, x < m) → PL (xs.map nI) (S.set w (.drw a k' ns'))) : Ep (eComp [v] src (gN v) bYes e) S PL := by
  refine E_draws ((List.range n).map nI) (fun _ y => ∃ r : Nat, y = .int r ∧ r < m) hw hn hvw h0 hv pl (by simpa using hs) (fun d hd k ns hn => ?_) fun ys k' ns' hn' h2 => ?_
  · obtain ⟨i, hi, rfl⟩ := List.mem_map.mp hd
    exact he i (List.mem_range.mp hi) k ns hn
  · obtain ⟨xs, rfl, hl, hx⟩ := h2.nats
    exact q xs k' ns' hn' (by simpa using hl) hx
/-- [draw for v in range(n)] of anything typed -/
theorem E_drawG {v w : Nat} {src : EM (List D)} {e : EM D} {a : Addr} {k : Int} {ns : List Int} (enc : α → D) (p : α → Prop) (n : Nat) (hw : S[w]? = some (.drw a k ns)) (hn : DrawOk ns) (hvw : v ≠ w) (h0 : Ep src S fun ds' S1 => ds' = (List.range n).map nI ∧ S1 = S) (hv : v < S.length) (pl : plainAt [v] S = true) (hs : n ≤ 1000000)
    (he : ∀ i < n, ∀ k ns, DrawOk ns → Ep e ((S.set w (.drw a k ns)).set v (.dat (.int i))) fun y S3 => (∃ r : α, y = enc r ∧ p r) ∧ ∃ k' ns', DrawOk ns' ∧ S3 = (S.set w (.drw a k' ns')).set v (.dat (.int i)))
    (q : ∀ (xs : List α) k' ns', DrawOk ns' → xs.length = n → (∀ x ∈ xs, p x) → PL (xs.map enc) (S.set w (.drw a k' ns'))) : Ep (eComp [v] src (gN v) bYes e) S PL := by
  refine E_draws ((List.range n).map nI) (fun _ y => ∃ r : α, y = enc r ∧ p r) hw hn hvw h0 hv pl (by simpa using hs) (fun d hd k ns hn => ?_) fun ys k' ns' hn' h2 => ?_
  · obtain ⟨i, hi, rfl⟩ := List.mem_map.mp hd
    exact he i (List.mem_range.mp hi) k ns hn
  · obtain ⟨xs, rfl, hl, hx⟩ := All2.typed enc p h2
    exact q xs k' ns' hn' (by simpa using hl) hx
end
end FW

/-! FwZb: more of the same: displays of dicts, stores. -/
namespace FW
open PySem PySem.Spec L2
open PyProof.Rows hiding St
section
variable {α : Type} {S : List Slot} {PD : D → List Slot → Prop} {PL : List D → List Slot → Prop} {PM : List (D × D) → List Slot → Prop} {Q : Out → Prop}
theorem X_fzM {t : Bool} {f : EM (List (D × D))} : EpK (eFzM t f) S PD = EpK f S fun es S1 => PD (dictD t es) S1 := by
  unfold eFzM
  simp only [← Ep_K, Ep_bind, Ep_ret]
theorem X_prn : EpK (ePairs []) S PM = PM [] S := Ep_ret []
theorem X_prc {fk fv : EM D} {r : List (EM D × EM D)} : EpK (ePairs ((fk, fv) :: r)) S PM = EpK fk S fun k S1 => EpK fv S1 fun v S2 => EpK (ePairs r) S2 fun es S3 => PM ((k, v) :: es) S3 := by
  have e : ePairs ((fk, fv) :: r) = eBind fk fun k => eBind fv fun v => eBind (ePairs r) fun es => eRet ((k, v) :: es) := rfl
  rw [e]
  simp only [← Ep_K, Ep_bind, Ep_ret]
theorem X_disp {t : Bool} {fs : List (EM D × EM D)} : EpK (eDisp t fs) S PM = EpK (ePairs fs) S fun es S1 => AndK (es.length ≤ 15) (OpK (esPuts t [] es) fun r => PM r S1) := by
  unfold eDisp
  simp only [← Ep_K, Ep_bind, Ep_ite, Ep_opt, Ep_bad]
  congr 1
  funext es S1
  unfold AndK OpK
  split
  · rename_i h; simp [h]
  · rename_i h; simp [h]
end
theorem W_forD {γ : Type} {g : Tg} {body : SM} {ds : List D} {Q : Out → Prop} (st : γ → List Slot) (c : γ) (h : ∀ d ∈ ds, ∀ c, ∃ S1, g d (st c) = some S1 ∧ Wp body S1 fun o => ∃ c', o = .nx (st c') ∨ o = .ct (st c')) (q : ∀ c', Q (.nx (st c'))) : Wp (fun S => forL g body ds S) (st c) Q := by
  have e := W_forC (fun d : D => d) (g := g) (body := body) (xs := ds) (Q := Q) st c h q
  rw [List.map_id'] at e
  exact e
theorem Ep_val {α : Type} {m : EM α} {S : List Slot} {P : α → List Slot → Prop} (v : α) (h : Ep m S fun r S1 => r = v ∧ S1 = S) (q : P v S) : EpK m S P := by
  obtain ⟨a, S1, e, rfl, rfl⟩ := h
  exact ⟨a, S1, e, q⟩
theorem ln_p {α : Type} {l : List α} {k : Nat} : (l.length + 1 = k + 1) = (l.length = k) := by simp
theorem setAt_i {row : List Int} {p : Nat} {v : Int} (h : p < row.length) : setAtD (.own (row.map PyData.int)) (.int p) (.int v) = some (.own ((row.set p v).map PyData.int)) := by
  have e : setAtD (.own (row.map PyData.int)) (.int p) (.int v) = (ixN (row.map PyData.int).length p).map fun j => .own ((row.map PyData.int).set j (.int v)) := rfl
  rw [e]
  unfold ixN
  rw [if_pos (by omega), if_pos (by rw [List.length_map]; omega)]
  simp only [Option.map_some, Int.toNat_natCast, List.map_set]
theorem setAt_g {α : Type} (enc : α → D) {row : List α} {p : Nat} {v : α} (h : p < row.length) : setAtD (.own (row.map enc)) (.int p) (enc v) = some (.own ((row.set p v).map enc)) := by
  have e : setAtD (.own (row.map enc)) (.int p) (enc v) = (ixN (row.map enc).length p).map fun j => .own ((row.map enc).set j (enc v)) := rfl
  rw [e]
  unfold ixN
  rw [if_pos (by omega), if_pos (by rw [List.length_map]; omega)]
  simp only [Option.map_some, Int.toNat_natCast, List.map_set]
theorem ix_i {row : List Int} {p : Nat} (h : p < row.length) : ixD (.list (row.map PyData.int)) (.int p) = some (.int (row.getD p 0)) := by
  refine ixD_l ?_
  rw [List.getElem?_map, List.getElem?_eq_getElem h, List.getD_eq_getElem?_getD, List.getElem?_eq_getElem h]
  rfl
theorem fold_app {α β : Type} (f : α → β) : ∀ (xs : List α) (a : List β), xs.foldl (fun s x => s ++ [f x]) a = a ++ xs.map f
  | [], a => by simp
  | x :: xs, a => by rw [List.foldl_cons, fold_app f xs]; simp
theorem fold_app2 {α β γ : Type} (f : α → β) (g : α → γ) : ∀ (xs : List α) (a : List β) (b : List γ), xs.foldl (fun (s : List β × List γ) x => (s.1 ++ [f x], s.2 ++ [g x])) (a, b) = (a ++ xs.map f, b ++ xs.map g)
  | [], a, b => by simp
  | x :: xs, a, b => by rw [List.foldl_cons, fold_app2 f g xs]; simp
theorem app_map {α : Type} (enc : α → D) {xs : List α} {x : α} (h : xs.length < 1000000) : appD (xs.map enc) [enc x] = some (.none, (xs ++ [x]).map enc) := by
  rw [appD_one (size_of (by rw [List.length_map]; exact h))]
  simp
theorem app_range {f : Nat → D} {i : Nat} (h : i < 1000000) : appD ((List.range i).map f) [f i] = some (.none, (List.range (i + 1)).map f) := by
  rw [appD_one (size_of (by rw [List.length_map, List.length_range]; exact h)), List.range_succ, List.map_append]
  rfl
theorem sumD_mapf {α : Type} {xs : List α} {t : α → Int} : sumD [.list (xs.map fun k => .int (t k))] = some (.int (xs.map t).sum) := by
  have e : (xs.map fun k => PyData.int (t k)) = (xs.map t).map PyData.int := by rw [List.map_map]; rfl
  rw [e, sumD_map]
section
variable {Q : Out → Prop}
/-- a loop over a range; what stands there is told by the number of turns -/
theorem W_forN {γ : Type} {g : Tg} {body : SM} (n : Nat) (st : Nat → γ → List Slot) (c : γ) (h : ∀ i < n, ∀ c, ∃ S1, g (nI i) (st i c) = some S1 ∧ Wp body S1 fun o => ∃ c', o = .nx (st (i + 1) c') ∨ o = .ct (st (i + 1) c')) (q : ∀ c', Q (.nx (st n c'))) :
    Wp (fun S => forL g body ((List.range n).map nI) S) (st 0 c) Q := by
  refine W_forE (β := Nat) nI st (fun s _ => s + 1) (fun i s => s = i) 0 c rfl (fun i x hx s c hs => ?_) (fun c' hc => ?_)
  · subst hs
    obtain ⟨hi, rfl⟩ : s < n ∧ s = x := by
      obtain ⟨h1, h2⟩ := List.getElem?_eq_some_iff.mp hx
      rw [List.length_range] at h1
      rw [List.getElem_range] at h2
      exact ⟨h1, h2⟩
    exact ⟨rfl, h s hi c⟩
  · rw [hc, List.length_range]
    exact q c'
/-- .. over any list -/
theorem W_forX {α γ : Type} (enc : α → D) {g : Tg} {body : SM} (xs : List α) (st : Nat → γ → List Slot) (c : γ) (h : ∀ i x, xs[i]? = some x → ∀ c, ∃ S1, g (enc x) (st i c) = some S1 ∧ Wp body S1 fun o => ∃ c', o = .nx (st (i + 1) c') ∨ o = .ct (st (i + 1) c')) (q : ∀ c', Q (.nx (st xs.length c'))) :
    Wp (fun S => forL g body (xs.map enc) S) (st 0 c) Q := by
  refine W_forE (β := Nat) enc st (fun s _ => s + 1) (fun i s => s = i) 0 c rfl (fun i x hx s c hs => ?_) (fun c' hc => ?_)
  · subst hs
    exact ⟨rfl, h s x hx c⟩
  · rw [hc]
    exact q c'
end
end FW

/-! FwC2: comprehensions with two fors. -/
namespace FW
open PySem PySem.Spec L2
open PyProof.Rows hiding St
section
variable {X : Cx} {W : WX} {pos : Pos}
theorem wipe_sub (vs : List Nat) : ∀ (us : List Nat) (τ : Sg), (∀ u ∈ us, u ∈ vs) → L2.wipe (L2.wipe τ us) vs = L2.wipe τ vs
  | [], _, _ => rfl
  | u :: us, τ, hu => by
    show L2.wipe ((L2.wipe τ us).set u none) vs = _
    rw [wipe_set (hu u (by simp))]
    exact wipe_sub vs us τ fun w hw => hu w (by simp [hw])
def compL2 (own vs1 : List Nat) (g : Tg) (t : EM Bool) (src1 : EM (List D)) (g1 : Tg) (t1 : EM Bool) (e : EM D) : List D → EM (List D)
  | [], S => .ok [] S
  | d :: ds, S => match g d S with
    | none => .bad
    | some S1 => match t S1 with
      | .ok true S2 => match src1 S2 with
        | .ok ds1 S3 => match compL vs1 g1 t1 e ds1 (wipeS vs1 S3) with
          | .ok ys S4 => match compL2 own vs1 g t src1 g1 t1 e ds (wipeS own S4) with
            | .ok zs S5 => .ok (ys ++ zs) S5
            | _ => .bad
          | _ => .bad
        | _ => .bad
      | .ok false S2 => compL2 own vs1 g t src1 g1 t1 e ds (wipeS own S2)
      | _ => .bad
def eComp2 (own vs1 : List Nat) (src : EM (List D)) (g : Tg) (t : EM Bool) (src1 : EM (List D)) (g1 : Tg) (t1 : EM Bool) (e : EM D) : EM (List D) := eBind src fun ds S => if plainAt own S then
    match compL2 own vs1 g t src1 g1 t1 e ds (wipeS own S) with
    | .ok ys S' => if small ys.length then .ok ys (restS own S S') else .bad
    | _ => .bad
  else .bad
theorem comp2_rd {own vs1 is is1 : List Nat} {g g1 : Tg} {t t1 : EM Bool} {e : EM D} {m m1 : EM (List D)} {σ : Sg} {H : Hp} {Q : L2.VK} (hsub : ∀ i ∈ is, i ∈ own) (hsub1 : ∀ i ∈ is1, i ∈ vs1) (hv : ∀ i ∈ vs1, i ∈ own) (q : tF (gx X W) (eComp2 own vs1 m g t m1 g1 t1 e) σ H Q) :
    tLc2 (tI (gx X W) m) (tG (gx X W) is g) (tB' (gx X W) t) (tI (gx X W) m1) (tG (gx X W) is1 g1) (tB' (gx X W) t1) (tD (gx X W) e) own vs1 σ H Q := by
  obtain ⟨S, Z, F, h, q⟩ := q
  refine ⟨S, Z, F, h, (Go.bind q).mono fun ds S1 c1 s1 h1 q1 J it A hA => ?_⟩
  by_cases hb : plainAt own S1 = true
  rotate_left
  · rw [if_neg hb] at q1
    exact q1.elim
  rw [if_pos hb] at q1
  obtain ⟨F0, sub0, h0⟩ := h1.wipe own
  cases eC : compL2 own vs1 g t m1 g1 t1 e ds (wipeS own S1) with
  | bad => simp only [eC] at q1; exact q1.elim
  | ex x S2 => simp only [eC] at q1; exact q1.elim
  | ok ys Sz =>
    simp only [eC] at q1
    by_cases hsm : small ys.length = true
    rotate_left
    · rw [if_neg hsm] at q1
      exact q1.elim
    rw [if_pos hsm] at q1
    have hsz : ys.length ≤ sizeLine := of_decide_eq_true hsm
    refine ⟨fun i k H' => k = ds.length - i ∧ i ≤ ds.length ∧ ∃ S' c' acc rest, c'.H = H' ∧ Holds X.K S' (L2.wipe σ own) c' ∧ Mk1 X.K c1 c' A acc ∧ compL2 own vs1 g t m1 g1 t1 e (ds.drop i) S' = .ok rest Sz ∧ acc ++ rest = ys, ⟨ds.length, ?_⟩, fun i k H' w => ?_⟩
    · have hn0 : (⟨c1.Z, c1.H, F0⟩ : Cfg).H A = none := hA
      obtain ⟨s2, h2⟩ := h0.tmpS (o := .lst []) hn0
      exact ⟨by simp, by simp, wipeS own S1, (⟨c1.Z, c1.H, F0⟩ : Cfg).tmp A (.lst []), [], ys, rfl, h2, ⟨(Stp.sub sub0).tmpU hA, hA, ⟨[], upd_same, .nil⟩, h1.nf hA, fun mm => h1.nF hA (sub0 A mm)⟩, by simpa using eC, rfl⟩
    · obtain ⟨ek, hi, S', c', acc, rest, eH, h', mk, ec, ey⟩ := w
      subst eH
      by_cases hlt : i < ds.length
      · obtain ⟨go, yld⟩ := it.go i c' S' (L2.wipe σ own) hlt mk.st.z h'
        refine .inr ⟨go, fun H2 => ∃ S2 c2 acc2 rest2, c2.H = H2 ∧ Holds X.K S2 (L2.wipe σ own) c2 ∧ Mk1 X.K c1 c2 A acc2 ∧ compL2 own vs1 g t m1 g1 t1 e (ds.drop (i + 1)) S2 = .ok rest2 Sz ∧ acc2 ++ rest2 = ys, fun H2 n => ?_, fun x H2 y => ?_⟩
        · obtain ⟨S2, c2, acc2, rest2, n1, n2, n3, n5, n6⟩ := n
          exact ⟨ds.length - (i + 1), by omega, rfl, hlt, S2, c2, acc2, rest2, n1, n2, n3, n5, n6⟩
        · obtain ⟨c2, d, e2, ed, st2, h2, rd⟩ := yld x H2 y
          subst e2
          have dr : ds.drop i = d :: ds.drop (i + 1) := by
            rw [List.drop_eq_getElem_cons hlt]
            rw [List.getElem?_eq_getElem hlt] at ed
            rw [Option.some.inj ed]
          rw [dr] at ec
          unfold compL2 at ec
          cases eg : g d S' with
          | none => simp only [eg] at ec; cases ec
          | some S3 =>
            simp only [eg] at ec
            refine ⟨S', c2.Z, c2.F, d, S3, h2, rd, eg, fun σ3 c3 st3 h3 on => ?_⟩
            have wσ : L2.wipe σ3 own = L2.wipe σ own := (on own hsub).trans (wipe_wipe own σ)
            refine ⟨wσ, S3, c3.Z, c3.F, h3, ?_⟩
            have m3 := (mk.step st2).step st3
            cases et : t S3 with
            | bad => simp only [et] at ec; cases ec
            | ex x S4 => simp only [et] at ec; cases ec
            | ok b S4 =>
              intro c4 st4 h4
              have m4 := m3.step st4
              cases b with
              | false =>
                simp only [et] at ec
                refine iteF ?_
                obtain ⟨F5, sub5, h5⟩ := h4.wipe own
                rw [wσ] at h5
                exact ⟨_, ⟨c4.Z, c4.H, F5⟩, acc, rest, rfl, h5, m4.sub sub5, ec, ey⟩
              | true =>
                simp only [et] at ec
                refine iteT ?_
                refine ⟨S4, c4.Z, c4.F, h4, ?_⟩
                cases es : m1 S4 with
                | bad => simp only [es] at ec; cases ec
                | ex x S5 => simp only [es] at ec; cases ec
                | ok ds1 S5 =>
                  simp only [es] at ec
                  intro c5 st5 h5 J1 it1
                  have m5 := m4.step st5
                  cases eL : compL vs1 g1 t1 e ds1 (wipeS vs1 S5) with
                  | bad => simp only [eL] at ec; cases ec
                  | ex x S6 => simp only [eL] at ec; cases ec
                  | ok ys1 S6 =>
                    simp only [eL] at ec
                    cases eR : compL2 own vs1 g t m1 g1 t1 e (ds.drop (i + 1)) (wipeS own S6) with
                    | bad => simp only [eR] at ec; cases ec
                    | ex x S7 => simp only [eR] at ec; cases ec
                    | ok zs S7 =>
                      simp only [eR] at ec
                      cases ec
                      obtain ⟨F6, sub6, h6⟩ := h5.wipe vs1
                      refine ⟨fun j k H' => k = ds1.length - j ∧ j ≤ ds1.length ∧ ∃ S' c' acc1 rest1, c'.H = H' ∧ Holds X.K S' (L2.wipe σ3 vs1) c' ∧ Mk1 X.K c1 c' A acc1 ∧ Same c5.Z c'.Z ∧ compL vs1 g1 t1 e (ds1.drop j) S' = .ok rest1 S6 ∧ acc1 ++ rest1 = acc ++ ys1, ⟨ds1.length, ?_⟩, fun j k H' w => ?_⟩
                      · exact ⟨by simp, by simp, wipeS vs1 S5, ⟨c5.Z, c5.H, F6⟩, acc, ys1, rfl, h6, m5.sub sub6, Same.refl _, by simpa using eL, rfl⟩
                      · obtain ⟨ek1, hj, S8, c8, acc1, rest1, eH, h8, mk8, sm8, ec8, ey8⟩ := w
                        subst eH
                        by_cases hlt1 : j < ds1.length
                        · obtain ⟨go1, yld1⟩ := it1.go j c8 S8 (L2.wipe σ3 vs1) hlt1 sm8 h8
                          refine .inr ⟨go1, fun H2 => ∃ S2 c2 acc2 rest2, c2.H = H2 ∧ Holds X.K S2 (L2.wipe σ3 vs1) c2 ∧ Mk1 X.K c1 c2 A acc2 ∧ Same c5.Z c2.Z ∧ compL vs1 g1 t1 e (ds1.drop (j + 1)) S2 = .ok rest2 S6 ∧ acc2 ++ rest2 = acc ++ ys1, fun H2 n => ?_, fun x H2 y => ?_⟩
                          · obtain ⟨S2, c2, acc2, rest2, n1, n2, n3, n4, n5, n6⟩ := n
                            exact ⟨ds1.length - (j + 1), by omega, rfl, hlt1, S2, c2, acc2, rest2, n1, n2, n3, n4, n5, n6⟩
                          · obtain ⟨c9, d1, e9, ed9, st9, h9, rd9⟩ := yld1 x H2 y
                            subst e9
                            have dr1 : ds1.drop j = d1 :: ds1.drop (j + 1) := by
                              rw [List.drop_eq_getElem_cons hlt1]
                              rw [List.getElem?_eq_getElem hlt1] at ed9
                              rw [Option.some.inj ed9]
                            rw [dr1] at ec8
                            unfold compL at ec8
                            cases eg1 : g1 d1 S8 with
                            | none => simp only [eg1] at ec8; cases ec8
                            | some Sa =>
                              simp only [eg1] at ec8
                              refine ⟨S8, c9.Z, c9.F, d1, Sa, h9, rd9, eg1, fun σa ca sta ha on1 => ?_⟩
                              have wσ1 : L2.wipe σa vs1 = L2.wipe σ3 vs1 := (on1 vs1 hsub1).trans (wipe_wipe vs1 σ3)
                              refine ⟨wσ1, Sa, ca.Z, ca.F, ha, ?_⟩
                              have ma := (mk8.step st9).step sta
                              have sa := (sm8.trans st9.z).trans sta.z
                              cases et1 : t1 Sa with
                              | bad => simp only [et1] at ec8; cases ec8
                              | ex x S4 => simp only [et1] at ec8; cases ec8
                              | ok b Sb =>
                                intro cb stb hb'
                                have mb := ma.step stb
                                have sb := sa.trans stb.z
                                cases b with
                                | false =>
                                  simp only [et1] at ec8
                                  refine iteF ?_
                                  obtain ⟨Fb, subb, hbw⟩ := hb'.wipe vs1
                                  rw [wσ1] at hbw
                                  exact ⟨_, ⟨cb.Z, cb.H, Fb⟩, acc1, rest1, rfl, hbw, mb.sub subb, sb, ec8, ey8⟩
                                | true =>
                                  simp only [et1] at ec8
                                  refine iteT ?_
                                  refine ⟨Sb, cb.Z, cb.F, hb', ?_⟩
                                  cases ee : e Sb with
                                  | bad => simp only [ee] at ec8; cases ec8
                                  | ex x S5 => simp only [ee] at ec8; cases ec8
                                  | ok yv Sc =>
                                    simp only [ee] at ec8
                                    intro cc stc hcc v rv
                                    have mc := mb.step stc
                                    have sc := sb.trans stc.z
                                    obtain ⟨vs, e5, r5⟩ := mc.at'
                                    cases er : compL vs1 g1 t1 e (ds1.drop (j + 1)) (wipeS vs1 Sc) with
                                    | bad => simp only [er] at ec8; cases ec8
                                    | ex x S6 => simp only [er] at ec8; cases ec8
                                    | ok ys2 Sd =>
                                      simp only [er] at ec8
                                      cases ec8
                                      obtain ⟨Fd, subd, hd⟩ := hcc.wipe vs1
                                      rw [wσ1] at hd
                                      have md := mc.sub subd
                                      have hlen : acc1.length + 1 + ys2.length + zs.length ≤ sizeLine := by
                                        have q2 := congrArg List.length ey8
                                        have q3 := congrArg List.length ey
                                        simp at q2 q3
                                        omega
                                      refine ⟨vs, e5, by have := r5.length; omega, _, (⟨cc.Z, cc.H, Fd⟩ : Cfg).tmp A (.lst (vs ++ [v])), acc1 ++ [yv], ys2, rfl, hd.tmp md.nf md.zn fun _ _ => ⟨_, rfl⟩, md.push e5 r5 rv, sc, er, by simpa using ey8⟩
                        · have e0 : ds1.drop j = [] := List.drop_eq_nil_of_le (by omega)
                          rw [e0] at ec8
                          cases ec8
                          rw [List.append_nil] at ey8
                          refine .inl ⟨it1.stop j c8 S6 (L2.wipe σ3 vs1) (by omega) sm8 h8, ?_⟩
                          obtain ⟨Fe, sube, he⟩ := h8.wipe own
                          rw [wipe_sub own vs1 σ3 hv, wσ] at he
                          refine ⟨wipeS own S6, ⟨c8.Z, c8.H, Fe⟩, acc1, zs, rfl, he, mk8.sub sube, eR, ?_⟩
                          rw [ey8, List.append_assoc]
                          exact ey
      · have e0 : ds.drop i = [] := List.drop_eq_nil_of_le (by omega)
        rw [e0] at ec
        cases ec
        rw [List.append_nil] at ey
        subst ey
        refine .inl ⟨it.stop i c' Sz (L2.wipe σ own) (by omega) mk.st.z h', ?_⟩
        obtain ⟨vs, ev, rv⟩ := mk.at'
        have hne : ∀ b, b ≠ A → (fun b => if b = A then none else c'.H b : Hp) b = c'.H b := fun b hb => if_neg hb
        have hcA : (fun b => if b = A then none else c'.H b : Hp) A = none := if_pos rfl
        have hh : Holds X.K Sz (L2.wipe σ own) ⟨c'.Z, fun b => if b = A then none else c'.H b, c'.F⟩ := by
          refine ⟨HoldsL.tr (c := c') (c' := ⟨c'.Z, fun b => if b = A then none else c'.H b, c'.F⟩) (Same.refl c'.Z) h'.l fun a ha => hne a fun z => mk.nf (z ▸ ha), h'.nd, h'.zf, fun b o q => ?_⟩
          have nb : b ≠ A := by
            rintro rfl
            have q' : c'.Z b = some o := q
            rw [mk.zn] at q'
            cases q'
          exact (hne b nb).trans (h'.zh b o q)
        obtain ⟨F7, sub7, h7⟩ := Holds.back h1 hb hh mk.st.z
        have st7 : Stp c1 ⟨c'.Z, fun b => if b = A then none else c'.H b, F7⟩ := by
          refine ⟨mk.st.z, fun b o q hn => ?_, fun b o q => ?_, mk.st.n, fun b hm => mk.st.f b (sub7 b hm)⟩
          · have nb : b ≠ A := by
              rintro rfl
              rw [mk.hn] at q
              cases q
            exact (hne b nb).trans (mk.st.k b o q hn)
          · have nb : b ≠ A := by
              rintro rfl
              rw [mk.hn] at q
              cases q
            obtain ⟨o', q'⟩ := mk.st.t b o q
            exact ⟨o', (hne b nb).trans q'⟩
        have fin := q1 _ st7 h7 A vs hcA rv
        have eq : upd (fun b => if b = A then none else c'.H b) A (.lst vs) = c'.H := by
          funext b
          by_cases hb' : b = A
          · subst hb'
            rw [upd_same, ev]
          · rw [upd_ne hb']
            exact hne b hb'
        have fin' : Q (.ref A) (upd (fun b => if b = A then none else c'.H b) A (.lst vs)) := fin
        rw [eq] at fin'
        exact fin'
section
variable {elt tg iter tg1 iter1 : Expr} {ifs ifs1 : List Expr} {scope : Scope} {own : List (Str × Nat)} {vs1 is is1 : List Nat} {m m1 : EM (List D)} {g g1 : Tg} {t t1 : EM Bool} {e : EM D} {y : Str} {py spos : Pos}
theorem df_comp2 (hc : X.calm = true) (hN : X.N.Nodup) (hi : DI X W tg iter m) (ok : BlkOk X.N X.env.scope scope own) (hv : ∀ i ∈ vs1, i ∈ own.map (·.2))
    (hg : ∀ (s : Shared) (H : Hp) (C : Addr) (cl : List (Str × Addr)) (fp : List Addr), DG (X.blk s H scope (compEnvC scope cl C X.env) fp) W tg is g) (ht : ∀ (s : Shared) (H : Hp) (C : Addr) (cl : List (Str × Addr)) (fp : List Addr), DTs (X.blk s H scope (compEnvC scope cl C X.env) fp) W ifs t)
    (hi1 : ∀ (s : Shared) (H : Hp) (C : Addr) (cl : List (Str × Addr)) (fp : List Addr), DI (X.blk s H scope (compEnvC scope cl C X.env) fp) W tg1 iter1 m1)
    (hg1 : ∀ (s : Shared) (H : Hp) (C : Addr) (cl : List (Str × Addr)) (fp : List Addr), DG (X.blk s H scope (compEnvC scope cl C X.env) fp) W tg1 is1 g1) (ht1 : ∀ (s : Shared) (H : Hp) (C : Addr) (cl : List (Str × Addr)) (fp : List Addr), DTs (X.blk s H scope (compEnvC scope cl C X.env) fp) W ifs1 t1)
    (he : ∀ (s : Shared) (H : Hp) (C : Addr) (cl : List (Str × Addr)) (fp : List Addr), DE (X.blk s H scope (compEnvC scope cl C X.env) fp) W elt e) (hsub : ∀ i ∈ is, i ∈ own.map (·.2)) (hsub1 : ∀ i ∈ is1, i ∈ vs1) (hs : ∀ x, foldedSetIterable iter X.env x = pure x := by intro _; rfl) (hs1 : ∀ env x, foldedSetIterable iter1 env x = pure x := by intro _ _; rfl) :
    DF X W (.ListComp elt [⟨tg, iter, ifs, 0⟩, ⟨tg1, iter1, ifs1, 0⟩] scope pos) (eComp2 (own.map (·.2)) vs1 m g t m1 g1 t1 e) := PE.wk (pe_lc2 (g := tG (gx X W) is g) (tt := tB' (gx X W) t) (wi1 := tI (gx X W) m1) (g1 := tG (gx X W) is1 g1) (tt1 := tB' (gx X W) t1) (te := tD (gx X W) e) hc hN hi ok hv hg ht hi1 hg1 ht1 he hs hs1) fun σ H Q q => comp2_rd hsub hsub1 hv q
theorem ds_ownLc2 (i : Nat) (hc : X.calm = true) (hN : X.N.Nodup) (hi : DI X W tg iter m) (ok : BlkOk X.N X.env.scope scope own) (hv : ∀ i ∈ vs1, i ∈ own.map (·.2))
    (hg : ∀ (s : Shared) (H : Hp) (C : Addr) (cl : List (Str × Addr)) (fp : List Addr), DG (X.blk s H scope (compEnvC scope cl C X.env) fp) W tg is g) (ht : ∀ (s : Shared) (H : Hp) (C : Addr) (cl : List (Str × Addr)) (fp : List Addr), DTs (X.blk s H scope (compEnvC scope cl C X.env) fp) W ifs t)
    (hi1 : ∀ (s : Shared) (H : Hp) (C : Addr) (cl : List (Str × Addr)) (fp : List Addr), DI (X.blk s H scope (compEnvC scope cl C X.env) fp) W tg1 iter1 m1)
    (hg1 : ∀ (s : Shared) (H : Hp) (C : Addr) (cl : List (Str × Addr)) (fp : List Addr), DG (X.blk s H scope (compEnvC scope cl C X.env) fp) W tg1 is1 g1) (ht1 : ∀ (s : Shared) (H : Hp) (C : Addr) (cl : List (Str × Addr)) (fp : List Addr), DTs (X.blk s H scope (compEnvC scope cl C X.env) fp) W ifs1 t1)
    (he : ∀ (s : Shared) (H : Hp) (C : Addr) (cl : List (Str × Addr)) (fp : List Addr), DE (X.blk s H scope (compEnvC scope cl C X.env) fp) W elt e) (hsub : ∀ i ∈ is, i ∈ own.map (·.2)) (hsub1 : ∀ i ∈ is1, i ∈ vs1)
    (hsw : swapsWith (.ListComp elt [⟨tg, iter, ifs, 0⟩, ⟨tg1, iter1, ifs1, 0⟩] scope pos) (some (.Name y py)) spos.line X.env = pure true) (hy : X.N[i]? = some y := by rfl) (hyl : X.env.scope.names.lookup y = some .local := by rfl) (hs : ∀ x, foldedSetIterable iter X.env x = pure x := by intro _; rfl) (hs1 : ∀ env x, foldedSetIterable iter1 env x = pure x := by intro _ _; rfl) :
    DS X W (.Assign [.Name y py] (.ListComp elt [⟨tg, iter, ifs, 0⟩, ⟨tg1, iter1, ifs1, 0⟩] scope pos) spos) (sOwn i (eComp2 (own.map (·.2)) vs1 m g t m1 g1 t1 e)) :=
  PS.wk (ps_setLc2 (g := tG (gx X W) is g) (tt := tB' (gx X W) t) (wi1 := tI (gx X W) m1) (g1 := tG (gx X W) is1 g1) (tt1 := tB' (gx X W) t1) (te := tD (gx X W) e) hc hN hy hyl hsw hi ok hv hg ht hi1 hg1 ht1 he hs hs1) fun Q σ H q => comp2_rd hsub hsub1 hv (own_rd Q σ H q)
theorem ds_datLc2 (i : Nat) (hc : X.calm = true) (hN : X.N.Nodup) (hi : DI X W tg iter m) (ok : BlkOk X.N X.env.scope scope own) (hv : ∀ i ∈ vs1, i ∈ own.map (·.2))
    (hg : ∀ (s : Shared) (H : Hp) (C : Addr) (cl : List (Str × Addr)) (fp : List Addr), DG (X.blk s H scope (compEnvC scope cl C X.env) fp) W tg is g) (ht : ∀ (s : Shared) (H : Hp) (C : Addr) (cl : List (Str × Addr)) (fp : List Addr), DTs (X.blk s H scope (compEnvC scope cl C X.env) fp) W ifs t)
    (hi1 : ∀ (s : Shared) (H : Hp) (C : Addr) (cl : List (Str × Addr)) (fp : List Addr), DI (X.blk s H scope (compEnvC scope cl C X.env) fp) W tg1 iter1 m1)
    (hg1 : ∀ (s : Shared) (H : Hp) (C : Addr) (cl : List (Str × Addr)) (fp : List Addr), DG (X.blk s H scope (compEnvC scope cl C X.env) fp) W tg1 is1 g1) (ht1 : ∀ (s : Shared) (H : Hp) (C : Addr) (cl : List (Str × Addr)) (fp : List Addr), DTs (X.blk s H scope (compEnvC scope cl C X.env) fp) W ifs1 t1)
    (he : ∀ (s : Shared) (H : Hp) (C : Addr) (cl : List (Str × Addr)) (fp : List Addr), DE (X.blk s H scope (compEnvC scope cl C X.env) fp) W elt e) (hsub : ∀ i ∈ is, i ∈ own.map (·.2)) (hsub1 : ∀ i ∈ is1, i ∈ vs1)
    (hsw : swapsWith (.ListComp elt [⟨tg, iter, ifs, 0⟩, ⟨tg1, iter1, ifs1, 0⟩] scope pos) (some (.Name y py)) spos.line X.env = pure true) (hy : X.N[i]? = some y := by rfl) (hyl : X.env.scope.names.lookup y = some .local := by rfl) (hs : ∀ x, foldedSetIterable iter X.env x = pure x := by intro _; rfl) (hs1 : ∀ env x, foldedSetIterable iter1 env x = pure x := by intro _ _; rfl) :
    DS X W (.Assign [.Name y py] (.ListComp elt [⟨tg, iter, ifs, 0⟩, ⟨tg1, iter1, ifs1, 0⟩] scope pos) spos) (sDat i (eComp2 (own.map (·.2)) vs1 m g t m1 g1 t1 e)) :=
  PS.wk (ps_setLc2 (g := tG (gx X W) is g) (tt := tB' (gx X W) t) (wi1 := tI (gx X W) m1) (g1 := tG (gx X W) is1 g1) (tt1 := tB' (gx X W) t1) (te := tD (gx X W) e) hc hN hy hyl hsw hi ok hv hg ht hi1 hg1 ht1 he hs hs1) fun Q σ H q => comp2_rd hsub hsub1 hv (dat_rd Q σ H q)
end
end
end FW

/-! FwSo: sorted lists of any data of one kind. -/
namespace FW
open PySem PySem.Spec L2
open PyProof.Rows hiding St
section
variable {X : Cx} {W : WX}
def isTup1 : D → Bool
  | .tuple (_ :: _) => true
  | _ => false
def noTupN : D → Bool
  | .tuple _ => false
  | .none => false
  | _ => true
def okSort (ds : List D) : Bool := noDictA ds && ds.all (shal 8) && (ds.all fun d => ds.all fun e => PySem.W.alike d e) && (ds.all isTup1 || ds.all noTupN) && small ds.length
/-- mergeSort by fuel, so that it can be evaluated -/
def mgF {α : Type} (le : α → α → Bool) : Nat → List α → List α → List α
  | 0, xs, ys => xs ++ ys
  | _ + 1, [], ys => ys
  | _ + 1, x :: xs, [] => x :: xs
  | n + 1, x :: xs, y :: ys => if le x y then x :: mgF le n xs (y :: ys) else y :: mgF le n (x :: xs) ys
theorem mgF_eq {α : Type} (le : α → α → Bool) : ∀ (n : Nat) (xs ys : List α), xs.length + ys.length ≤ n → mgF le n xs ys = List.merge xs ys le
  | 0, [], [], _ => by simp [mgF]
  | 0, _ :: _, _, h => by simp at h
  | 0, [], _ :: _, h => by simp at h
  | n + 1, [], ys, _ => by simp [mgF]
  | n + 1, x :: xs, [], _ => by simp [mgF]
  | n + 1, x :: xs, y :: ys, h => by
    simp only [mgF, List.cons_merge_cons]
    simp only [List.length_cons] at h
    split
    · rw [mgF_eq le n xs (y :: ys) (by simp only [List.length_cons]; omega)]
    · rw [mgF_eq le n (x :: xs) ys (by simp only [List.length_cons]; omega)]
def msF {α : Type} (le : α → α → Bool) : Nat → List α → List α
  | 0, l => l
  | _ + 1, [] => []
  | _ + 1, [a] => [a]
  | n + 1, a :: b :: l => mgF le (l.length + 2) (msF le n ((a :: b :: l).take ((l.length + 2 + 1) / 2))) (msF le n ((a :: b :: l).drop ((l.length + 2 + 1) / 2)))
theorem msF_eq {α : Type} (le : α → α → Bool) : ∀ (n : Nat) (l : List α), l.length ≤ n → msF le n l = l.mergeSort le
  | 0, [], _ => by simp [msF]
  | 0, _ :: _, h => by simp at h
  | n + 1, [], _ => by simp [msF]
  | n + 1, [a], _ => by simp [msF]
  | n + 1, a :: b :: l, h => by
    have hl : (a :: b :: l).length = l.length + 2 := rfl
    rw [hl] at h
    have h1 : ((a :: b :: l).take ((l.length + 2 + 1) / 2)).length ≤ n := by rw [List.length_take, hl]; omega
    have h2 : ((a :: b :: l).drop ((l.length + 2 + 1) / 2)).length ≤ n := by rw [List.length_drop, hl]; omega
    unfold msF
    rw [msF_eq le n _ h1, msF_eq le n _ h2, mgF_eq _ _ _ _ (by rw [List.length_mergeSort, List.length_mergeSort, List.length_take, List.length_drop, hl]; omega)]
    rw [List.mergeSort]
    simp [List.MergeSort.Internal.splitInTwo_fst, List.MergeSort.Internal.splitInTwo_snd]
abbrev srtD (ds : List D) : List D := ds.mergeSort (PySem.W.dataLe false id)
def srtY (ds : List D) : List D := msF (PySem.W.dataLe false id) ds.length ds
theorem srtY_eq (ds : List D) : srtY ds = srtD ds := msF_eq _ _ _ (Nat.le_refl _)
def rSortedAny (K : PySem.W.Frag) : List V → Hp → L2.VK → Prop := fun vs H Q => ∃ (a : Addr) (xs : List V) (ds : List D) (R : V → D → Prop), vs = [V.ref a] ∧ SqL K H a xs ∧ PySem.W.EachIs R xs ds ∧ (∀ v d, R v d → Dp K H v d) ∧ PySem.W.AllAlike ds ∧ PySem.W.Sortable ds ∧ (∀ d ∈ ds, d.depth ≤ 60) ∧
  ∀ (ys : List V) (p : Addr), PySem.W.EachIs R ys (srtD ds) → H p = none → Q (.ref p) (upd H p (.lst ys))
theorem each_len {α β : Type} {R : α → β → Prop} : ∀ {as : List α} {bs : List β}, PySem.W.EachIs R as bs → as.length = bs.length
  | _, _, .nil => rfl
  | _, _, .cons _ h => by simp [each_len h]
theorem each_vals {R : V → D → Prop} : ∀ {xs : List V} {us : List Value} {ds : List D}, Vals xs us → PySem.W.EachIs R xs ds → PySem.W.EachIs (fun u d => ∃ v, RelV v u ∧ R v d) us ds
  | _, _, _, .nil, .nil => .nil
  | _, _, _, .cons h t, .cons r e => .cons ⟨_, h, r⟩ (each_vals t e)
theorem vals_each {R : V → D → Prop} : ∀ {us : List Value} {ds : List D}, PySem.W.EachIs (fun u d => ∃ v, RelV v u ∧ R v d) us ds → ∃ ys, Vals ys us ∧ PySem.W.EachIs R ys ds
  | _, _, .nil => ⟨[], .nil, .nil⟩
  | _, _, .cons ⟨v, h, r⟩ t => by
    obtain ⟨ys, h1, h2⟩ := vals_each t
    exact ⟨v :: ys, .cons h h1, .cons r h2⟩
theorem cr_sortedAny (hu : X.A.units + 64 < cLine) : CallR X (.builtin "sorted") (rSortedAny X.K) := by
  intro pins s σ H vs us Q I r h
  obtain ⟨a, xs, ds, R, rfl, hs, hR, hD, hal, hk, hdep, q⟩ := h
  obtain ⟨its, rv, hl, hz⟩ := I.list hs
  rw [Vals.ref1 r]
  have hlen : its.length = ds.length := by rw [← rv.length]; exact each_len hR
  refine PySem.W.sorted_data (enc := id) (R := fun u d => ∃ v, RelV v u ∧ R v d) (bs := ds) (vs := its) hl.isList (each_vals rv hR) ?_ (by rw [List.map_id]; exact hal) (by rw [List.map_id]; exact hk) (by rw [← each_len hR]; exact hz) (fun d hd => by
    have := hdep d hd
    show X.A.units + 2 + d.depth < cLine
    omega) fun out ho eo => ?_
  · exact (each_vals rv hR).mono fun u d ⟨v, h1, h2⟩ => Dp.reads I d v u (hD v d h2) h1
  · obtain ⟨ys, h1, h2⟩ := vals_each eo
    obtain ⟨ep, he'⟩ := PyProof.Rows.sortedAll_at s.heap its out.toArray
    have hy : ys.length ≤ sizeLine := by
      rw [h1.length, ho, ← hlen, ← rv.length]
      exact hz
    exact ⟨.ref _, upd H (s.heap.objs.size + 1) (.lst ys), I.laid (t' := s.toks) (fun _ _ => PyProof.Rows.sortedAll_old) (Nat.le_succ _) ⟨hy, out, ep, h1, he'⟩, rfl, q ys _ h2 (I.hok.fresh (Nat.le_succ _))⟩
theorem rpa_each {K : PySem.W.Frag} {Z : Hp} : ∀ {vs : List V} {ds : List D}, RpA K Z vs ds → PySem.W.EachIs (fun v d => Rp K Z v d) vs ds
  | _, [], h => by cases h; exact .nil
  | _, d :: ds, h => by
    cases h with
    | cons h1 h2 => exact .cons h1 (rpa_each h2)
theorem rpa_eachN {K : PySem.W.Frag} {Z : Hp} : ∀ {vs : List V} {ds : List D}, RpA K Z vs ds → noDictA ds = true → PySem.W.EachIs (fun v d => Rp K Z v d ∧ noDict d = true) vs ds
  | _, [], h, _ => by cases h; exact .nil
  | _, d :: ds, h, n => by
    rw [noDictA, Bool.and_eq_true] at n
    cases h with
    | cons h1 h2 => exact .cons ⟨h1, n.1⟩ (rpa_eachN h2 n.2)
theorem each_rpa {K : PySem.W.Frag} {Z : Hp} {P : D → Prop} : ∀ {vs : List V} {ds : List D}, PySem.W.EachIs (fun v d => Rp K Z v d ∧ P d) vs ds → RpA K Z vs ds
  | _, _, .nil => .nil
  | _, _, .cons h t => .cons h.1 (each_rpa t)
def sortedG : List D → Option (List D)
  | [.list ds] => if okSort ds then some (srtY ds) else none
  | _ => none
theorem cf_sortedG (hu : X.A.units + 64 < cLine) : CallF X W (.builtin "sorted") sortedG := by
  refine ⟨_, cr_sortedAny hu, fun vs ds es S σ c Q e hh rs q => ?_⟩
  unfold sortedG at e
  split at e
  · rename_i es'
    split at e
    rotate_left
    · cases e
    rename_i hok
    rw [srtY_eq] at e
    cases e
    unfold okSort at hok
    simp only [Bool.and_eq_true, Bool.or_eq_true, List.all_eq_true] at hok
    obtain ⟨⟨⟨⟨k1, k2⟩, k3⟩, k4⟩, k5⟩ := hok
    obtain ⟨v, rfl, r⟩ := rs.one
    obtain ⟨a, xs, rfl, a1, r1⟩ := r.lstI hh.zh
    refine ⟨a, xs, es', fun v d => Rp X.K c.Z v d ∧ noDict d = true, rfl, SqL.of a1, rpa_eachN r1 k1, fun v d h => Rp.dp (h.1.mono hh.zh) h.2, fun d hd e he => k3 d hd e he, ?_, fun d hd => ?_, fun ys p h2 hp => q c p ys (Stp.refl _) hh hp (each_rpa h2)⟩
    · rcases k4 with k4 | k4
      · refine .inl fun d hd => ?_
        have := k4 d hd
        cases d with
        | tuple xs => cases xs with
          | nil => simp [isTup1] at this
          | cons x r => exact ⟨x, r, rfl⟩
        | _ => simp [isTup1] at this
      · refine .inr fun d hd => ?_
        have := k4 d hd
        cases d with
        | tuple xs => simp [noTupN] at this
        | none => simp [noTupN] at this
        | _ => exact ⟨nofun, nofun⟩
    · have := shal_depth 8 d (k2 d hd)
      omega
  · cases e
/-- one thing at most -/
def rSorted1 (K : PySem.W.Frag) : List V → Hp → L2.VK → Prop := fun vs H Q => ∃ (a : Addr) (xs : List V), vs = [V.ref a] ∧ SqL K H a xs ∧ xs.length ≤ 1 ∧ ∀ p : Addr, H p = none → Q (.ref p) (upd H p (.lst xs))
theorem cr_sorted1 : CallR X (.builtin "sorted") (rSorted1 X.K) := by
  intro pins s σ H vs us Q I r h
  obtain ⟨a, xs, rfl, hs, hl1, q⟩ := h
  obtain ⟨its, rv, hl, hz⟩ := I.list hs
  rw [Vals.ref1 r]
  have hlen : its.length = xs.length := rv.length.symm
  refine Srt.sorted_any hl.isList (by rw [hlen]; exact hz) (fun h2 => by omega) fun out hp => ?_
  have eo : out = its := by
    match its, hlen, hp with
    | [], _, hp => exact List.perm_nil.mp hp
    | [x], _, hp => exact List.perm_singleton.mp hp
    | _ :: _ :: _, hlen, _ => simp at hlen; omega
  subst eo
  obtain ⟨ep, he'⟩ := PyProof.Rows.sortedAll_at s.heap out out.toArray
  exact ⟨.ref _, upd H (s.heap.objs.size + 1) (.lst xs), I.laid (t' := s.toks) (fun _ _ => PyProof.Rows.sortedAll_old) (Nat.le_succ _) ⟨hz, out, ep, rv, he'⟩, rfl, q _ (I.hok.fresh (Nat.le_succ _))⟩
def sorted1 : List D → Option (List D)
  | [.list []] => some []
  | [.list [d]] => some [d]
  | _ => none
theorem cf_sorted1 : CallF X W (.builtin "sorted") sorted1 := by
  refine ⟨_, cr_sorted1, fun vs ds es S σ c Q e hh rs q => ?_⟩
  unfold sorted1 at e
  split at e
  · cases e
    obtain ⟨v, rfl, r⟩ := rs.one
    obtain ⟨a, xs, rfl, a1, r1⟩ := r.lstI hh.zh
    cases r1
    exact ⟨a, [], rfl, SqL.of a1, by simp, fun p hp => q c p [] (Stp.refl _) hh hp .nil⟩
  · cases e
    obtain ⟨v, rfl, r⟩ := rs.one
    obtain ⟨a, xs, rfl, a1, r1⟩ := r.lstI hh.zh
    have hl := r1.length
    exact ⟨a, xs, rfl, SqL.of a1, by rw [hl]; simp, fun p hp => q c p xs (Stp.refl _) hh hp r1⟩
  · cases e
/-- ints, or any data of one kind, or one thing at most -/
def sortedX0 (as : List D) : Option (List D) := match sortedD as with
  | some r => some r
  | none => sortedG as
def sortedX (as : List D) : Option (List D) := match sortedX0 as with
  | some r => some r
  | none => sorted1 as
theorem sortedX_G {as r : List D} (h0 : sortedD as = none) (h : sortedG as = some r) : sortedX as = some r := by
  unfold sortedX sortedX0
  rw [h0, h]
theorem CallF.orElse {f : Value} {g g' : List D → Option (List D)} (h : CallF X W f g) (h' : CallF X W f g') : CallF X W f (fun as => match g as with | some r => some r | none => g' as) := by
  obtain ⟨r, h1, h2⟩ := h
  obtain ⟨r', h1', h2'⟩ := h'
  refine ⟨_, CallR.or' h1 h1', fun vs ds es S σ c Q e hh rs q => ?_⟩
  cases eg : g ds with
  | some x =>
    simp only [eg] at e
    cases e
    exact .inl (h2 vs ds es S σ c Q eg hh rs q)
  | none =>
    simp only [eg] at e
    exact .inr (h2' vs ds es S σ c Q e hh rs q)
theorem cf_sortedX (hu : X.A.units + 64 < cLine) : CallF X W (.builtin "sorted") sortedX := CallF.orElse (CallF.orElse cf_sorted (cf_sortedG hu)) cf_sorted1
end
end FW

/-! FwL1: zip of a tuple and a list, lists of own lists, statements that are never reached. -/
namespace FW
open PySem PySem.Spec L2
open PyProof.Rows hiding St
/-- the tuple at a and the list at b, n turns -/
def ItzM (K : PySem.W.Frag) (a b : Addr) (n : Nat) : It :=
  ⟨fun i H => i < n ∧ ∃ (xs ys : List V), SqT K H a xs ∧ SqL K H b ys ∧ n ≤ xs.length ∧ n ≤ ys.length,
    fun i H v H' => ∃ T x y, v = .ref T ∧ H T = none ∧ H' = upd H T (.tup [x, y]) ∧ (∀ xs, SqT K H a xs → xs[i]? = some x) ∧ ∀ ys, SqL K H b ys → ys[i]? = some y,
    fun i H => n < i ∨ (i = n ∧ ∃ xs ys : List V, SqT K H a xs ∧ SqL K H b ys ∧ n = min xs.length ys.length)⟩
theorem turn_zipM {P : Program} {w : World} {K : PySem.W.Frag} {elts : List Expr} {kk : Nat} {tpos : Pos} {a b z TI TO i1 i2 : Addr} {n : Nat} (Dz : PySem.ZipSep2 z TI TO i1 i2 [i1, a] [i2, b]) :
    Turn P w K (.Tuple elts kk tpos) (ItzM K a b n) [z, TI, TO, i1, i2] z (fun i h => i ≤ n ∧ IsZip h z TI TO .none ∧ IsPair h TI (.ref i1) (.ref i2) ∧ (∃ x y, IsPair h TO x y) ∧ h.IsTupleIter i1 a i ∧ h.IsListIter i2 b i) where
  mem := List.mem_cons_self
  obj := fun i h st c hc => by
    obtain ⟨_, qz, qTI, ⟨x, y, qTO⟩, ⟨o1, e1, _, d1⟩, ⟨o2, e2, _, d2⟩⟩ := st
    simp only [List.mem_cons, List.not_mem_nil, or_false] at hc
    rcases hc with rfl | rfl | rfl | rfl | rfl
    · exact ⟨_, qz, nofun⟩
    · exact ⟨_, qTI, nofun⟩
    · exact ⟨_, qTO, nofun⟩
    · exact ⟨o1, e1, fun v q => nomatch d1.symm.trans q⟩
    · exact ⟨o2, e2, fun v q => nomatch d2.symm.trans q⟩
  keep := fun i h h' st k => by
    obtain ⟨q0, qz, qTI, ⟨x, y, qTO⟩, q1, q2⟩ := st
    exact ⟨q0, k z (by simp) _ qz, k TI (by simp) _ qTI, ⟨x, y, k TO (by simp) _ qTO⟩, q1.at fun o q => k i1 (by simp) o q, q2.at fun o q => k i2 (by simp) o q⟩
  item := by
    intro X hP hw hK hc i pins s σ H E I hf st hg
    subst hP hw hK
    obtain ⟨_, qz, qTI, ⟨x0, y0, qTO⟩, q1, q2⟩ := st
    obtain ⟨hin, xs, ys, sx, sy, lx, ly⟩ := hg
    obtain ⟨its, rv, p, _⟩ := I.tuple sx
    obtain ⟨its2, rv2, p2, _⟩ := I.list sy
    have L1 := rv.length
    have L2' := rv2.length
    have gx1 : xs[i]? = some (xs[i]'(by omega)) := List.getElem?_eq_getElem _
    have gy1 : ys[i]? = some (ys[i]'(by omega)) := List.getElem?_eq_getElem _
    obtain ⟨u, hu, ru⟩ := rv.get gx1
    obtain ⟨u2, hu2, ru2⟩ := rv2.get gy1
    have zl : z < s.heap.objs.size := Heap.lt_size qz
    have na : a ≠ i1 := fun e => by
      obtain ⟨o1, e1, c1, _⟩ := q1
      obtain ⟨o2, e2, c2, _⟩ := p
      rw [e, e1] at e2
      cases e2
      rw [c1] at c2
      exact absurd (Value.type.inj c2) (by decide)
    have nb : b ≠ i2 := fun e => by
      obtain ⟨o1, e1, c1, _⟩ := q2
      obtain ⟨o2, n2, e2, c2, _⟩ := p2
      rw [e, e1] at e2
      cases e2
      rw [c1] at c2
      exact absurd (Value.type.inj c2) (by decide)
    have hh0 : X.A.in1.handled = none := I.ok.hd hc
    refine wpAny_pyNext_zipD2_item Dz (Draws.tuple hh0 i1 a na its.toArray) (Draws.list hh0 i2 b nb its2.toArray) qz qTI qTO ⟨q1, p⟩ ⟨q2, p2.isList⟩ (by simp; omega) (by simp; omega) fun w1 w2 h' tk e1 e2 z' TO' s1 s2 hT hsz hk => ?_
    have w1e : w1 = u := by
      have := e1.symm.trans (show its.toArray[i]? = some u by simpa using hu)
      exact Option.some.inj this
    have w2e : w2 = u2 := by
      have := e2.symm.trans (show its2.toArray[i]? = some u2 by simpa using hu2)
      exact Option.some.inj this
    subst w1e w2e
    refine ⟨_, rfl, wpAny_letOwnedTupleGo_zip (s := { s with heap := h', toks := tk }) z' fun h'' z'' sb => ?_⟩
    have hT2 : h''.get? s.heap.objs.size = some { cls := .type "tuple", data := .seq #[w1, w2] } := (sb.2 _ (Nat.ne_of_gt zl)).trans hT
    have nw : ObjOk X.prog X.w (upd H s.heap.objs.size (.tup [xs[i]'(by omega), ys[i]'(by omega)])) h'' s.heap.objs.size (.tup [xs[i]'(by omega), ys[i]'(by omega)]) :=
      ⟨by show 2 ≤ sizeLine; decide, [w1, w2], .cons ru (.cons ru2 .nil), ⟨_, hT2, rfl, _, rfl⟩⟩
    have I1 : Inv X pins σ (upd H s.heap.objs.size (.tup [xs[i]'(by omega), ys[i]'(by omega)])) { s with heap := h'', toks := tk } :=
      I.turnedNew (t' := tk) (ch := [z, TI, TO, i1, i2]) (fun c o hb q => by
        simp only [List.mem_cons, List.not_mem_nil, or_false, not_or] at hb
        exact (sb.2 c hb.1).trans (hk c o hb.1 hb.2.2.1 hb.2.2.2.1 hb.2.2.2.2 q)) hf (Nat.le_refl _) nw
    refine ⟨.ref s.heap.objs.size, _, I1, rfl, ⟨_, _, _, rfl, I.hok.fresh (Nat.le_refl _), rfl, fun l hl => by rw [I.tuple_inj hl sx]; exact gx1, fun l hl => by rw [I.list_inj hl sy]; exact gy1⟩, ⟨hin, z'', ?_, ⟨w1, w2, ?_⟩, ?_, ?_⟩, fun c hcm => ?_⟩
    · exact (sb.2 _ Dz.TIz).trans (hk _ _ Dz.TIz Dz.TITO Dz.TIi1 Dz.TIi2 qTI)
    · exact (sb.2 _ Dz.TOz).trans TO'
    · exact s1.1.at fun o q => (sb.2 _ (Ne.symm Dz.zi1)).trans q
    · exact s2.1.at fun o q => (sb.2 _ (Ne.symm Dz.zi2)).trans q
    · have hlt : c < s.heap.objs.size := by
        simp only [List.mem_cons, List.not_mem_nil, or_false] at hcm
        obtain ⟨_, t1, _⟩ := q1
        obtain ⟨_, t2, _⟩ := q2
        rcases hcm with rfl | rfl | rfl | rfl | rfl
        · exact zl
        · exact Heap.lt_size qTI
        · exact Heap.lt_size qTO
        · exact Heap.lt_size t1
        · exact Heap.lt_size t2
      rw [upd_ne (Nat.ne_of_lt hlt)]
      exact (hf c hcm).1
  done := by
    intro X hP hw hK hc i pins s σ H E I hf st hg
    subst hP hw hK
    obtain ⟨hle, qz, qTI, ⟨x0, y0, qTO⟩, q1, q2⟩ := st
    rcases hg with hg | ⟨rfl, xs, ys, sx, sy, hn⟩
    · omega
    obtain ⟨its, rv, p, _⟩ := I.tuple sx
    obtain ⟨its2, rv2, p2, _⟩ := I.list sy
    have L1 := rv.length
    have L2' := rv2.length
    have na : a ≠ i1 := fun e => by
      obtain ⟨o1, e1, c1, _⟩ := q1
      obtain ⟨o2, e2, c2, _⟩ := p
      rw [e, e1] at e2
      cases e2
      rw [c1] at c2
      exact absurd (Value.type.inj c2) (by decide)
    have nb : b ≠ i2 := fun e => by
      obtain ⟨o1, e1, c1, _⟩ := q2
      obtain ⟨o2, n2, e2, c2, _⟩ := p2
      rw [e, e1] at e2
      cases e2
      rw [c1] at c2
      exact absurd (Value.type.inj c2) (by decide)
    have hh0 : X.A.in1.handled = none := I.ok.hd hc
    exact wpAny_pyNext_zipD2_end Dz (Draws.tuple hh0 i1 a na its.toArray) (Draws.list hh0 i2 b nb its2.toArray) qz qTI qTO ⟨q1, p⟩ ⟨q2, p2.isList⟩ (by simp; omega) (by simp; omega) (by simp; omega) fun h' tk hk => ⟨rfl, I.turnedL (t' := tk) (ch := [z, TI, TO, i1, i2]) (fun c o hb q => by
      simp only [List.mem_cons, List.not_mem_nil, or_false, not_or] at hb
      exact hk c o hb.1 hb.2.2.1 hb.2.2.2.1 hb.2.2.2.2 q) hf⟩
  self := fun A i s Q E st h => wpAny_pyIter_zip st.2.1 h
def iZipM (K : PySem.W.Frag) (ta : TA) : TI := fun σ H R => ta σ H fun vs H1 => ∃ a b xs ys, vs = [.ref a, .ref b] ∧ SqT K H1 a xs ∧ SqL K H1 b ys ∧ R (ItzM K a b (min xs.length ys.length)) H1
section
variable {X : Cx} {W : WX} {pos : Pos}
theorem pi_zipM {e e2 : Expr} {ta : TA} {p tpos : Pos} {elts : List Expr} {kk : Nat} (hg : Gl X "zip") (hm : X.mg "zip" = none) (ha : PA X [e, e2] ta)
    (hs : starEach [e, e2] X.env = (false, eval e X.env) :: starEach [e2] X.env := by rfl) (hpl : (backTo pos (starEach [e2] X.env)).any (·.1) = false := by rfl) :
    PI X (.Tuple elts kk tpos) (.Call (.Name "zip" p) [e, e2] [] pos) (iZipM X.K ta) := by
  refine ⟨fun pins s σ H R I q0 => ?_⟩
  refine Call_ (ld_blt I hg hm PyProof.Rows.boot_zip (PyProof.Rows.callWith_type1 (thn (ha.run pos pins s σ H _ I q0) fun us s1 ⟨vs, H1, I1, r1, q1⟩ => ?_) hs hpl))
  obtain ⟨a, b, xs, ys, rfl, sx, sy, q⟩ := q1
  obtain ⟨u1, u2, rfl, rr1, rr2⟩ := vals2 r1
  cases rr1
  cases rr2
  obtain ⟨its, rv, p1, _⟩ := I1.tuple sx
  obtain ⟨its2, rv2, p2, _⟩ := I1.list sy
  have la : a < s1.heap.objs.size := by
    obtain ⟨o, e, _⟩ := p1
    exact Heap.lt_size e
  have lb : b < s1.heap.objs.size := p2.lt
  refine PySem.zip_begins2 (PySem.begins_tuple a its.toArray) (PySem.begins_list b its2.toArray) p1 p2.isList fun h' hz hTI hTO h1 h2 hsz hk => wpAny_pyIter_zip hz ?_
  have fresh5 : ∀ c, c ∈ [s1.heap.objs.size + 4, s1.heap.objs.size + 2, s1.heap.objs.size + 3, s1.heap.objs.size, s1.heap.objs.size + 1] → FpOk X pins H1 c := fun c hcm => by
    have hle : s1.heap.objs.size ≤ c := by
      simp only [List.mem_cons, List.not_mem_nil, or_false] at hcm
      rcases hcm with rfl | rfl | rfl | rfl | rfl <;> omega
    exact I1.fpOk hle (I1.hok.fresh hle)
  have I2 : Inv X pins σ H1 { s1 with heap := h' } := I1.kept (t' := s1.toks) hk
  exact ⟨s1.heap.objs.size + 4, [s1.heap.objs.size + 4, s1.heap.objs.size + 2, s1.heap.objs.size + 3, s1.heap.objs.size, s1.heap.objs.size + 1], _, _, H1, rfl, I2,
    turn_zipM (PySem.zip_sep2 (fp1 := [a]) (fp2 := [b]) (by simpa using la) (by simpa using lb)), ⟨Nat.zero_le _, hz, hTI, ⟨_, _, hTO⟩, ⟨_, h1, rfl, rfl⟩, ⟨_, h2, rfl, rfl⟩⟩, fresh5, q⟩
def pairD (p : D × D) : D := .tuple [p.1, p.2]
def zipD : List D → Option (List D)
  | [.tuple xs, .list ys] => some ((xs.zip ys).map pairD)
  | _ => none
def iZ (f : EM (List D)) : EM (List D) := eBind f fun ds => eOpt (zipD ds)
theorem di_zip {e e2 : Expr} {f : EM (List D)} {p tpos : Pos} {elts : List Expr} {kk : Nat} (hg : Gl X "zip") (hm : X.mg "zip" = none) (ha : DA X W [e, e2] f)
    (hs : starEach [e, e2] X.env = (false, eval e X.env) :: starEach [e2] X.env := by rfl) (hpl : (backTo pos (starEach [e2] X.env)).any (·.1) = false := by rfl) :
    DI X W (.Tuple elts kk tpos) (.Call (.Name "zip" p) [e, e2] [] pos) (iZ f) := by
  refine PI.wk (pi_zipM hg hm ha hs hpl) fun σ H R q => ?_
  obtain ⟨S, Z, F, h, q⟩ := q
  refine ⟨S, Z, F, h, (Go.bind q).mono fun ds S1 c1 st1 h1 q1 vs rs => ?_⟩
  obtain ⟨r, e, k⟩ := Go.opt q1
  unfold zipD at e
  split at e
  rotate_left
  · cases e
  rename_i xs ys
  cases e
  obtain ⟨v1, v2, rfl, r1, r2⟩ := rs.two
  obtain ⟨a, us, rfl, sa, ra⟩ := r1.tupI
  cases r2 with
  | lst eb rb =>
    rename_i b ws
    have la := ra.length
    have lb := rb.length
    refine ⟨a, b, us, ws, rfl, sameT h1.zh sa, SqL.of (h1.zh _ _ eb), k c1 (Stp.refl _) h1 _ ⟨fun i c S' σ' hi sm hS => ?_, fun i c S' σ' hi sm hS => ?_⟩⟩
    · rw [List.length_map, List.length_zip] at hi
      have ta : SqT X.K c.H a us := sameT hS.zh (sameT sm sa)
      have tb : SqL X.K c.H b ws := SqL.of (hS.zh _ _ (sm _ _ eb))
      refine ⟨⟨by omega, us, ws, ta, tb, Nat.min_le_left _ _, Nat.min_le_right _ _⟩, fun x H' y => ?_⟩
      obtain ⟨T, x', y', rfl, hT, rfl, f1, f2⟩ := y
      obtain ⟨w1, g1, t1⟩ := ra.get (List.getElem?_eq_getElem (show i < xs.length by omega))
      obtain ⟨w2, g2, t2⟩ := rb.get (List.getElem?_eq_getElem (show i < ys.length by omega))
      have k1 := Option.some.inj ((f1 us ta).symm.trans g1)
      have k2 := Option.some.inj ((f2 ws tb).symm.trans g2)
      subst k1 k2
      obtain ⟨s3, h3⟩ := hS.lay (p := T) (o := .tup [x', y']) hT
      refine ⟨c.lay T (.tup [x', y']), pairD (xs[i]'(by omega), ys[i]'(by omega)), rfl, ?_, s3, h3, .tup upd_same (.cons ((t1.mono sm).mono s3.z) (.cons ((t2.mono sm).mono s3.z) .nil))⟩
      rw [List.getElem?_map, List.getElem?_eq_getElem (by rw [List.length_zip]; omega), List.getElem_zip]
      rfl
    · rw [List.length_map, List.length_zip] at hi
      have ta : SqT X.K c.H a us := sameT hS.zh (sameT sm sa)
      have tb : SqL X.K c.H b ws := SqL.of (hS.zh _ _ (sm _ _ eb))
      rcases Nat.lt_or_ge (min us.length ws.length) i with z | z
      · exact .inl z
      · exact .inr ⟨by omega, us, ws, ta, tb, rfl⟩
def sBad : SM := fun _ => .bad
theorem ds_bad {st : Stmt} : DS X W st sBad := ⟨fun pins s σ H Q I q => by
  obtain ⟨S, Z, F, h, q⟩ := q
  exact q.elim⟩
theorem df_BO {id : String} {g : List D → Option (List D)} (i : Nat) {x y : Str} {p p2 : Pos} (hc : CallF X W (.builtin id) g) (hg : Gl X x) (hm : X.mg x = none) (hv : bootBuiltins x = some (.builtin id)) (hN : X.N[i]? = some y := by rfl) (hvi : Vis X.env.scope y := by first | exact Or.inl rfl | exact Or.inr (Or.inl rfl) | exact Or.inr (Or.inr rfl)) (hdy : (y == ("__debug__" : Str)) = false := by decide)
    (hcd : (y == ("__classdict__" : Str)) = false := by decide) (hn : x ≠ "__name__" := by decide) (hd : (x == ("__debug__" : Str)) = false := by decide)
    (hs : starEach [.Name y p2] X.env = (false, eval (.Name y p2) X.env) :: starEach [] X.env := by rfl) (hpl : (backTo pos (starEach [] X.env)).any (·.1) = false := by rfl) : DF X W (.Call (.Name x p) [.Name y p2] [] pos) (eBFO g i) := by
  obtain ⟨r, hc, hr⟩ := hc
  exact PE.wk (pe_callB hc hg hm hv (pa_cons (pe_var hN hvi hdy hcd) pa_nil hs) (hn := hn) (hdb := hd) (he := hs) (hpl := hpl)) (cfO_rd hr)
theorem df_TyO {T : String} {g : List D → Option (List D)} (i : Nat) {x y : Str} {p p2 : Pos} (hc : CallF X W (.type T) g) (hg : Gl X x) (hm : X.mg x = none) (hv : bootBuiltins x = some (.type T)) (hN : X.N[i]? = some y := by rfl) (hvi : Vis X.env.scope y := by first | exact Or.inl rfl | exact Or.inr (Or.inl rfl) | exact Or.inr (Or.inr rfl)) (hdy : (y == ("__debug__" : Str)) = false := by decide)
    (hcd : (y == ("__classdict__" : Str)) = false := by decide) (hn : x ≠ "__name__" := by decide) (hd : (x == ("__debug__" : Str)) = false := by decide)
    (hs : starEach [.Name y p2] X.env = (false, eval (.Name y p2) X.env) :: starEach [] X.env := by rfl) (hpl : (backTo pos (starEach [] X.env)).any (·.1) = false := by rfl) : DF X W (.Call (.Name x p) [.Name y p2] [] pos) (eBFO g i) := by
  obtain ⟨r, hc, hr⟩ := hc
  exact PE.wk (pe_callTy hc hg hm hv (pa_cons (pe_var hN hvi hdy hcd) pa_nil hs) (hn := hn) (hdb := hd) (he := hs) (hpl := hpl)) (cfO_rd hr)
end
end FW

/-! FwZc: more plain rules: sources that freeze, two fors, lists of rows. -/
namespace FW
open PySem PySem.Spec L2
open PyProof.Rows hiding St
section
variable {α β : Type} {S : List Slot} {PL : List D → List Slot → Prop} {Q : Out → Prop}
/-- [e for v in xs if t], the source leaves S1 -/
theorem E_selS (enc : α → D) {v : Nat} {src : EM (List D)} {t : EM Bool} {e : EM D} (S1 : List Slot) (xs : List α) (p : α → Bool) (f : α → D) (h0 : Ep src S fun ds' S' => ds' = xs.map enc ∧ S' = S1) (hv : v < S1.length) (pl : plainAt [v] S1 = true) (hs : xs.length ≤ 1000000)
    (ht : ∀ x ∈ xs, Ep t (S1.set v (.dat (enc x))) fun b S3 => b = p x ∧ S3 = S1.set v (.dat (enc x))) (he : ∀ x ∈ xs, p x = true → Ep e (S1.set v (.dat (enc x))) fun y S3 => y = f x ∧ S3 = S1.set v (.dat (enc x))) (q : PL ((xs.filter p).map f) S1) : Ep (eComp [v] src (gN v) t e) S PL := by
  obtain ⟨ds, S2, e1, rfl, rfl⟩ := h0
  have hid : Ep (eRet (xs.map enc)) S2 fun ds' S' => ds' = xs.map enc ∧ S' = S2 := ⟨_, _, rfl, rfl, rfl⟩
  obtain ⟨ys, S3, e2, p2⟩ := E_selG (PL := PL) (src := eRet (xs.map enc)) (t := t) (e := e) (v := v) (S := S2) enc xs p f hid hv pl hs ht he q
  refine ⟨ys, S3, ?_, p2⟩
  unfold eComp at e2 ⊢
  unfold eBind at e2 ⊢
  rw [e1]
  exact e2
theorem E_mapS (enc : α → D) {v : Nat} {src : EM (List D)} {e : EM D} (S1 : List Slot) (xs : List α) (f : α → D) (h0 : Ep src S fun ds' S' => ds' = xs.map enc ∧ S' = S1) (hv : v < S1.length) (pl : plainAt [v] S1 = true) (hs : xs.length ≤ 1000000)
    (he : ∀ x ∈ xs, Ep e (S1.set v (.dat (enc x))) fun y S3 => y = f x ∧ S3 = S1.set v (.dat (enc x))) (q : PL (xs.map f) S1) : Ep (eComp [v] src (gN v) bYes e) S PL := by
  refine E_selS enc S1 xs (fun _ => true) f h0 hv pl hs (fun d _ => ?_) (fun d hd _ => he d hd) ?_
  · rw [Ep_yes]
    exact ⟨rfl, rfl⟩
  · rw [List.filter_eq_self.mpr fun _ _ => rfl]
    exact q
/-- [e for v in xs for u in ys] -/
theorem comp2_map (enc : α → D) (enc1 : β → D) {v u : Nat} {src1 : EM (List D)} {t1 : EM Bool} {e : EM D} (hvu : u ≠ v) (ys : α → List β) (p : α → β → Bool) (f : α → β → D) (hv : v < S.length) (hu : u < S.length) (hd : S[u]? = some .un) (hd2 : S[v]? = some .un) : ∀ (xs : List α),
    (∀ x ∈ xs, Ep src1 (S.set v (.dat (enc x))) (fun ds' S' => ds' = (ys x).map enc1 ∧ S' = S.set v (.dat (enc x))) ∧ ∀ y ∈ ys x, Ep t1 ((S.set v (.dat (enc x))).set u (.dat (enc1 y))) (fun b S3 => b = p x y ∧ S3 = (S.set v (.dat (enc x))).set u (.dat (enc1 y))) ∧
      (p x y = true → Ep e ((S.set v (.dat (enc x))).set u (.dat (enc1 y))) fun z S3 => z = f x y ∧ S3 = (S.set v (.dat (enc x))).set u (.dat (enc1 y)))) →
    compL2 [v, u] [u] (gN v) bYes src1 (gN u) t1 e (xs.map enc) S = .ok (xs.flatMap fun x => ((ys x).filter (p x)).map (f x)) S
  | [], _ => rfl
  | x :: xs, h => by
    obtain ⟨h1, h2⟩ := h x List.mem_cons_self
    have ih := comp2_map enc enc1 (src1 := src1) (t1 := t1) (e := e) hvu ys p f hv hu hd hd2 xs fun y hy => h y (List.mem_cons_of_mem _ hy)
    rw [List.map_cons]
    unfold compL2
    have g1 : gN v (enc x) S = some (S.set v (.dat (enc x))) := by
      unfold gN
      rw [if_pos hv]
    have eb : ∀ S, bYes S = .ok true S := fun _ => rfl
    have w1 : wipeS [u] (S.set v (.dat (enc x))) = S.set v (.dat (enc x)) := by
      show (S.set v (.dat (enc x))).set u .un = _
      apply List.ext_getElem?
      intro j
      rw [List.getElem?_set]
      by_cases e : u = j
      · subst e
        rw [if_pos rfl, if_pos (by rw [List.length_set]; exact hu), List.getElem?_set_ne (Ne.symm hvu), hd]
      · rw [if_neg e]
    obtain ⟨ds', S', e1, rfl, rfl⟩ := h1
    have e2 := comp_mapG (own := [u]) (g := gN u) (t := t1) (e := e) enc1 (S.set v (.dat (enc x))) (p x) (f x) (ys x) fun y hy => ⟨(S.set v (.dat (enc x))).set u (.dat (enc1 y)), by unfold gN; rw [if_pos (by rw [List.length_set]; exact hu)], by
      show ((S.set v (.dat (enc x))).set u (.dat (enc1 y))).set u .un = _
      rw [List.set_set]
      exact w1, (h2 y hy).1.mono fun b S3 q => ⟨q.1, q.2, fun hb => (h2 y hy).2 (q.1 ▸ hb)⟩⟩
    have w2 : wipeS [v, u] (S.set v (.dat (enc x))) = S := by
      show (wipeS [u] (S.set v (.dat (enc x)))).set v .un = S
      rw [w1, List.set_set]
      apply List.ext_getElem?
      intro j
      rw [List.getElem?_set]
      by_cases e : v = j
      · subst e
        rw [if_pos rfl, if_pos hv, hd2]
      · rw [if_neg e]
    simp only [g1, eb, e1, w1, e2, w2, ih, List.flatMap_cons]
theorem E_map2 (enc : α → D) (enc1 : β → D) {v u : Nat} {src src1 : EM (List D)} {t1 : EM Bool} {e : EM D} (xs : List α) (ys : α → List β) (p : α → β → Bool) (f : α → β → D) (h0 : Ep src S fun ds' S1 => ds' = xs.map enc ∧ S1 = S) (hvu : u ≠ v) (hv : v < S.length) (hu : u < S.length) (pl : plainAt [v, u] S = true) (hs : (xs.flatMap fun x => ((ys x).filter (p x)).map (f x)).length ≤ 1000000)
    (h : ∀ x ∈ xs, Ep src1 (((S.set u .un).set v .un).set v (.dat (enc x))) (fun ds' S' => ds' = (ys x).map enc1 ∧ S' = ((S.set u .un).set v .un).set v (.dat (enc x))) ∧ ∀ y ∈ ys x, Ep t1 ((((S.set u .un).set v .un).set v (.dat (enc x))).set u (.dat (enc1 y))) (fun b S3 => b = p x y ∧ S3 = (((S.set u .un).set v .un).set v (.dat (enc x))).set u (.dat (enc1 y))) ∧
      (p x y = true → Ep e ((((S.set u .un).set v .un).set v (.dat (enc x))).set u (.dat (enc1 y))) fun z S3 => z = f x y ∧ S3 = (((S.set u .un).set v .un).set v (.dat (enc x))).set u (.dat (enc1 y))))
    (q : PL (xs.flatMap fun x => ((ys x).filter (p x)).map (f x)) S) : Ep (eComp2 [v, u] [u] src (gN v) bYes src1 (gN u) t1 e) S PL := by
  obtain ⟨ds, S1, e1, rfl, rfl⟩ := h0
  have hc := comp2_map (S := (S1.set u .un).set v .un) enc enc1 (src1 := src1) (t1 := t1) (e := e) hvu ys p f (by simpa using hv) (by simpa using hu)
    (by rw [List.getElem?_set_ne (Ne.symm hvu), List.getElem?_set_self (by exact hu)]) (by rw [List.getElem?_set_self (by simpa using hv)]) xs h
  refine ⟨_, S1, ?_, q⟩
  unfold eComp2 eBind
  rw [e1]
  have hsm : small (xs.flatMap fun x => ((ys x).filter (p x)).map (f x)).length = true := small_of hs
  have hw : wipeS [v, u] S1 = (S1.set u .un).set v .un := rfl
  simp only [pl, if_true, hw, hc, hsm]
  congr 1
  have hr : restS [v, u] S1 ((S1.set u .un).set v .un) = (restS [u] S1 ((S1.set u .un).set v .un)).set v (S1[v]) := by
    show (match S1[v]? with | some s => (restS [u] S1 ((S1.set u .un).set v .un)).set v s | none => _) = _
    rw [List.getElem?_eq_getElem hv]
  have hr2 : restS [u] S1 ((S1.set u .un).set v .un) = ((S1.set u .un).set v .un).set u (S1[u]) := by
    show (match S1[u]? with | some s => (restS [] S1 ((S1.set u .un).set v .un)).set u s | none => _) = _
    rw [List.getElem?_eq_getElem hu]
    rfl
  rw [hr, hr2]
  apply List.ext_getElem?
  intro j
  by_cases ev : v = j
  · subst ev
    rw [List.getElem?_set_self (by simpa using hv), List.getElem?_eq_getElem hv]
  · rw [List.getElem?_set_ne ev]
    by_cases eu : u = j
    · subst eu
      rw [List.getElem?_set_self (by simpa using hu), List.getElem?_eq_getElem hu]
    · rw [List.getElem?_set_ne eu, List.getElem?_set_ne ev, List.getElem?_set_ne eu]
end
/-! lists of anything typed -/
theorem ixT_g {α : Type} (enc : α → D) {xs : List α} {k : Nat} {x : α} (h : xs[k]? = some x) : ixD (.tuple (xs.map enc)) (.int (k : Nat)) = some (enc x) := ixD_t (by rw [List.getElem?_map, h]; rfl)
theorem ixL_g {α : Type} (enc : α → D) {xs : List α} {k : Nat} {x : α} (h : xs[k]? = some x) : ixD (.list (xs.map enc)) (.int (k : Nat)) = some (enc x) := ixD_l (by rw [List.getElem?_map, h]; rfl)
theorem eraseIdx_map' {α β : Type} (f : α → β) : ∀ (xs : List α) (k : Nat), (xs.map f).eraseIdx k = (xs.eraseIdx k).map f
  | [], _ => rfl
  | _ :: _, 0 => rfl
  | x :: xs, k + 1 => congrArg (f x :: ·) (eraseIdx_map' f xs k)
theorem pop_g {α : Type} (enc : α → D) {xs : List α} {k : Nat} {x : α} (h : xs[k]? = some x) (hs : xs.length < 2 ^ 62) : popAtD (xs.map enc) [.int (k : Nat)] = some (enc x, (xs.eraseIdx k).map enc) := by
  have hk := (List.getElem?_eq_some_iff.mp h).1
  have e : popAtD (xs.map enc) [.int (k : Nat)] = (if -(2 ^ 63) ≤ ((k : Nat) : Int) ∧ ((k : Nat) : Int) < 2 ^ 63 then (seqIndex? (k : Nat) (xs.map enc).length).bind fun j => ((xs.map enc)[j]?).map fun d => (d, (xs.map enc).eraseIdx j) else none) := rfl
  have e2 : seqIndex? ((k : Nat) : Int) (xs.map enc).length = some k := by
    unfold seqIndex?
    simp
    omega
  rw [e, if_pos ⟨by omega, by omega⟩, e2]
  simp only [Option.bind_some, List.getElem?_map, h, Option.map_some]
  rw [eraseIdx_map']
theorem addL {xs ys : List D} (h : xs.length + ys.length ≤ 1000000) : addD (.list xs) (.list ys) = some (.list (xs ++ ys)) := by
  have : (1000000 : Nat) ≤ sizeLine := by decide
  have e : addD (.list xs) (.list ys) = (if xs.length + ys.length ≤ sizeLine then some (.list (xs ++ ys)) else none) := rfl
  rw [e, if_pos (by omega)]
theorem addTu {xs ys : List D} (h : xs.length + ys.length ≤ 1000000) : addD (.tuple xs) (.tuple ys) = some (.tuple (xs ++ ys)) := by
  have : (1000000 : Nat) ≤ sizeLine := by decide
  have e : addD (.tuple xs) (.tuple ys) = (if xs.length + ys.length ≤ sizeLine then some (.tuple (xs ++ ys)) else none) := rfl
  rw [e, if_pos (by omega)]
theorem shal0 (n : Nat) (d : D) (h : shal 0 d = true) : shal n d = true := shal_le (Nat.zero_le n) h
theorem in_nats (k : Nat) (P : List Nat) : inD (.int k) (.list (P.map nI)) = some (.bool (P.contains k)) ∧ ninD (.int k) (.list (P.map nI)) = some (.bool (!P.contains k)) := by
  have hok : inOk (P.map nI) (.int k) = true := by
    unfold inOk
    have : noDictA (P.map nI) = true := nd_en P
    rw [this]
    rfl
  have ha : ((P.map nI).any fun z => PyData.eqv z (.int k)) = P.contains k := by
    rw [List.any_map, List.contains_eq_any_beq]
    congr 1
    funext z
    have := En.eqv (α := Nat) z k
    show PyData.eqv (nI z) (nI k) = _
    refine this.trans ?_
    rw [Bool.eq_iff_iff]
    simp
    exact eq_comm
  constructor
  · show (if inOk (P.map nI) (.int k) then some (PyData.bool ((P.map nI).any fun z => PyData.eqv z (.int k))) else none) = _
    rw [if_pos hok, ha]
  · show (if inOk (P.map nI) (.int k) then some (PyData.bool (!(P.map nI).any fun z => PyData.eqv z (.int k))) else none) = _
    rw [if_pos hok, ha]
theorem rep_tup {d : D} {m : Nat} (h : m ≤ 1000) : mulD (.tuple [d]) (.int m) = some (.tuple (List.replicate m d)) := by
  have e : mulD (.tuple [d]) (.int m) = (if -1000 ≤ (m : Int) ∧ (m : Int) ≤ 1000 ∧ [d].length ≤ 1000 then some (.tuple (List.replicate (m : Int).toNat [d]).flatten) else none) := rfl
  rw [e, if_pos ⟨by omega, by omega, by simp⟩, Int.toNat_natCast]
  congr 2
  induction m with
  | zero => rfl
  | succ m ih => rw [List.replicate_succ, List.flatten_cons, ih (by omega) rfl, List.replicate_succ]; rfl
theorem rep_lst {d : D} {m : Nat} (h : m ≤ 1000) : mulD (.list [d]) (.int m) = some (.list (List.replicate m d)) ∧ repF (.list [d]) (.int m) = some (List.replicate m d) := by
  have hs : (1000 : Nat) < sizeLine := by decide
  have f : (List.replicate m [d]).flatten = List.replicate m d := by
    clear h
    induction m with
    | zero => rfl
    | succ m ih => rw [List.replicate_succ, List.flatten_cons, ih, List.replicate_succ]; rfl
  constructor
  · have e : mulD (.list [d]) (.int m) = (if -(2 ^ 63) ≤ (m : Int) ∧ (m : Int) < 2 ^ 63 ∧ [d].length * (m : Int).toNat ≤ sizeLine then some (.list (List.replicate (m : Int).toNat [d]).flatten) else none) := rfl
    rw [e, if_pos ⟨by omega, by omega, by simp; omega⟩, Int.toNat_natCast, f]
  · have e : repF (.list [d]) (.int m) = (if -(2 ^ 63) ≤ (m : Int) ∧ (m : Int) < 2 ^ 63 ∧ [d].length * (m : Int).toNat ≤ sizeLine then some (List.replicate (m : Int).toNat [d]).flatten else none) := rfl
    rw [e, if_pos ⟨by omega, by omega, by simp; omega⟩, Int.toNat_natCast, f]
end FW

/-! FwL2: three names set at once, each to data or to a list of its own. -/
namespace FW
open PySem PySem.Spec L2
open PyProof.Rows hiding St
theorem TK.aft {K : PySem.W.Frag} {Z H : Hp} {F F' : List Addr} {w : V} {s2 : Slot} {o1 o2 : Option Addr} (t2 : TK K ⟨Z, H, F⟩ w s2 o2) (f1 : ∀ b ∈ F', b ∈ F ∨ o1 = some b) (dj : ∀ p, o1 = some p → o2 = some p → False) : TK K ⟨Z, H, F'⟩ w s2 o2 := by
  cases o2 with
  | none => exact SlotOk.tr t2 (Same.refl _) fun _ _ => rfl
  | some p =>
    obtain ⟨u, e, g1, g2, g3, g4, g5⟩ := t2
    refine ⟨u, e, fun m => ?_, g2, g3, g4, g5.tr (Same.refl _) fun _ _ => rfl⟩
    rcases f1 p m with m | m
    · exact g1 m
    · exact dj p m rfl
section
variable {X : Cx} {W : WX} {pos : Pos}
theorem par_core3 {i j l : Nat} {S2 : List Slot} {σ : Sg} {c1 c5 : Cfg} {v w z : V} {s1 s2 s3 : Slot} {o1 o2 o3 : Option Addr} {Q : Ends} (ST : Stp c1 c5) (h5 : Holds X.K S2 σ c5) (t1 : TK X.K c5 v s1 o1) (t2 : TK X.K c5 w s2 o2) (t3 : TK X.K c5 z s3 o3)
    (d12 : ∀ p, o1 = some p → o2 = some p → False) (d13 : ∀ p, o1 = some p → o3 = some p → False) (d23 : ∀ p, o2 = some p → o3 = some p → False) (w1 : ∀ p, o1 = some p → c1.H p = none) (w2 : ∀ p, o2 = some p → c1.H p = none) (w3 : ∀ p, o3 = some p → c1.H p = none)
    (q2 : GoS (gx X W) c1 Q (if i < S2.length ∧ j < S2.length ∧ l < S2.length then .nx (((S2.set i s1).set j s2).set l s3) else .bad)) :
    Q.nx (((σ.set i (some v)).set j (some w)).set l (some z)) c5.H := by
  split at q2
  rotate_left
  · exact q2.elim
  rename_i hl
  obtain ⟨F1, f1', h6⟩ := t1.put h5 hl.1
  have t2' : TK X.K ⟨c5.Z, c5.H, F1⟩ w s2 o2 := t2.aft f1' d12
  have t3' : TK X.K ⟨c5.Z, c5.H, F1⟩ z s3 o3 := t3.aft f1' d13
  obtain ⟨F2, f2', h7⟩ := t2'.put h6 (by rw [List.length_set]; exact hl.2.1)
  have t3'' : TK X.K ⟨c5.Z, c5.H, F2⟩ z s3 o3 := t3'.aft f2' d23
  obtain ⟨F3, f3', h8⟩ := t3''.put h7 (by rw [List.length_set, List.length_set]; exact hl.2.2)
  refine q2 _ ⟨c5.Z, c5.H, F3⟩ ⟨ST.z, ST.k, ST.t, ST.n, fun b m => ?_⟩ h8
  rcases f3' b m with m | m
  · rcases f2' b m with m | m
    · rcases f1' b m with m | m
      · exact ST.f b m
      · exact .inr (w1 b m)
    · exact .inr (w2 b m)
  · exact .inr (w3 b m)
def sParK3 (i j l : Nat) (f1 f2 f3 : EM Slot) : SM := sOf f1 fun s1 S1 => sOf f2 (fun s2 S2 => sOf f3 (fun s3 S3 => if i < S3.length ∧ j < S3.length ∧ l < S3.length then .nx (((S3.set i s1).set j s2).set l s3) else .bad) S2) S1
theorem ds_parK3 (i j l : Nat) {x y z : Str} {a b c : Expr} {f1 f2 f3 : EM Slot} {px py pz pt : Pos} {kt k2 pt2} (hc : X.calm = true) (hN : X.N.Nodup) (ha : DK X W a f1) (hb : DK X W b f2) (hcc : DK X W c f3) (hij : i ≠ j) (hil : i ≠ l) (hjl : j ≠ l) (hi : X.N[i]? = some x := by rfl) (hj : X.N[j]? = some y := by rfl) (hl : X.N[l]? = some z := by rfl)
    (hx : X.env.scope.names.lookup x = some .local := by rfl) (hy : X.env.scope.names.lookup y = some .local := by rfl) (hz : X.env.scope.names.lookup z = some .local := by rfl)
    (hw : swappedStores [.Tuple [.Name x px, .Name y py, .Name z pz] kt pt] (.Tuple [a, b, c] k2 pt2) X.env = pure (some [x, y, z]) := by rfl)
    (hs : swapsWithSole [.Tuple [.Name x px, .Name y py, .Name z pz] kt pt] (.Tuple [a, b, c] k2 pt2) pos.line X.env = pure false := by rfl)
    (hsa : starEach (a :: [b, c]) X.env = (false, eval a X.env) :: starEach [b, c] X.env := by rfl) (hsb : starEach (b :: [c]) X.env = (false, eval b X.env) :: starEach [c] X.env := by rfl) (hsc : starEach (c :: []) X.env = (false, eval c X.env) :: starEach [] X.env := by rfl) :
    DS X W (.Assign [.Tuple [.Name x px, .Name y py, .Name z pz] kt pt] (.Tuple [a, b, c] k2 pt2) pos) (sParK3 i j l f1 f2 f3) := by
  refine PS.wk (ps_par3 hc hN hi hj hl hij hil hjl hx hy hz (pa_cons ha (pa_cons hb (pa_cons hcc pa_nil hsc) hsb) hsa) hw hs) fun Q σ H q => ?_
  obtain ⟨S, Z, F, h, q⟩ := q
  refine ⟨S, Z, F, h, Go.toS q fun s1 S1 c1 st1 h1 q1 v c2 o1 n1 => ?_⟩
  obtain ⟨st2, h2, t1, w1⟩ := n1.to h1
  refine ⟨S1, c2.Z, c2.F, h2, ?_⟩
  have q2 := q1
  unfold sOf at q2
  cases e2 : f2 S1 with
  | bad => rw [e2] at q2; exact q2.elim
  | ex e S2 =>
    rw [e2] at q2
    exact fun c' cls dx s' o x => q2 σ c' cls dx (st2.trans s') o x
  | ok s2 S2 =>
    rw [e2] at q2
    intro c3 st3 h3 w c4 o2 n2
    obtain ⟨st4, h4, t2, w2⟩ := n2.to h3
    refine ⟨S2, c4.Z, c4.F, h4, ?_⟩
    have q3 := q2
    cases e3 : f3 S2 with
    | bad =>
      simp only [e3] at q3
      exact q3.elim
    | ex e S3 =>
      simp only [e3] at q3
      exact fun c' cls dx s' o x => q3 σ c' cls dx ((st2.trans st3).trans (st4.trans s')) o x
    | ok s3 S3 =>
      simp only [e3] at q3
      intro c5 st5 h5 z' c6 o3 n3
      obtain ⟨st6, h6, t3, w3⟩ := n3.to h5
      have t13 := t1.step st3
      have t14 := t13.step st4
      have t15 := t14.step st5
      have t25 := t2.step st5
      exact ⟨v, w, z', rfl, par_core3 (((st2.trans st3).trans (st4.trans st5)).trans st6) h6 (t15.step st6) (t25.step st6) t3 (par_dj (c' := c3) (c'' := c3) (w := w) (s2 := s2) t13 w2) (par_dj (c' := c5) (c'' := c5) (w := z') (s2 := s3) t15 w3) (par_dj (c' := c5) (c'' := c5) (w := z') (s2 := s3) t25 w3)
        w1 (fun p e => (st2.trans st3).was (w2 p e)) (fun p e => ((st2.trans st3).trans (st4.trans st5)).was (w3 p e)) q3⟩
end
section
variable {S : List Slot} {Q : Out → Prop}
theorem Y_parK3 {i j l : Nat} {f1 f2 f3 : EM Slot} : WpK (sParK3 i j l f1 f2 f3) S Q = EpK f1 S fun s1 S1 => EpK f2 S1 fun s2 S2 => EpK f3 S2 fun s3 S3 => AndK (i < S3.length) (AndK (j < S3.length) (AndK (l < S3.length) (Q (.nx (((S3.set i s1).set j s2).set l s3))))) := by
  simp only [← Ep_K, ← Wp_K]
  unfold sParK3
  rw [Wp_of]
  congr 1
  funext s1 S1
  have h := Wp_of (m := f2) (k := fun s2 S2 => sOf f3 (fun s3 S3 => if i < S3.length ∧ j < S3.length ∧ l < S3.length then .nx (((S3.set i s1).set j s2).set l s3) else .bad) S2) (S := S1) (Q := Q)
  unfold Wp at h
  refine Eq.trans (show _ = _ from rfl) (h.trans ?_)
  congr 1
  funext s2 S2
  have h := Wp_of (m := f3) (k := fun s3 S3 => if i < S3.length ∧ j < S3.length ∧ l < S3.length then .nx (((S3.set i s1).set j s2).set l s3) else .bad) (S := S2) (Q := Q)
  unfold Wp at h
  refine Eq.trans (show _ = _ from rfl) (h.trans ?_)
  congr 1
  funext s3 S3
  unfold AndK
  by_cases h1 : i < S3.length
  · by_cases h2 : j < S3.length
    · by_cases h3 : l < S3.length
      · simp [h1, h2, h3, okO]
      · simp [h1, h2, h3, okO]
    · simp [h1, h2, okO]
  · simp [h1, okO]
end
end FW

/-! FwT1: t[::-1] of a tuple, max and min of a tuple of ints. -/
namespace FW
open PySem PySem.Spec L2
open PyProof.Rows hiding St
section
variable {prog : Program} {w : World} {A : Around} {E : Value → Shared → Prop} {s : Shared}
theorem adjust_rev (n : Nat) : Builtin.Slice.sliceAdjust none none (-1) (n : Int) = ((n : Int) - 1, -1) := by
  unfold Builtin.Slice.sliceAdjust
  rfl
theorem places_rev (n : Nat) : Builtin.Slice.slicePlaces ((n : Int) - 1) (-1) (-1) = n := by
  unfold Builtin.Slice.slicePlaces
  have h1 : ¬ ((-1 : Int) > 0) := by decide
  simp only [h1, if_false, show (- -1 : Int) = 1 by decide, Int.ediv_one]
  split <;> omega
theorem fm_congr {α β : Type} {f g : α → Option β} : ∀ {l : List α}, (∀ x ∈ l, f x = g x) → l.filterMap f = l.filterMap g
  | [], _ => rfl
  | x :: l, h => by
    have ih := fm_congr fun y hy => h y (List.mem_cons_of_mem _ hy)
    rw [List.filterMap_cons, List.filterMap_cons, h x List.mem_cons_self, ih]
theorem sliceApplied_rev {sl : Addr} {vs : Value} {n : Nat} {Q : Int × Int × Nat → Shared → Prop} (hs : s.heap.IsSliceOf sl .none .none vs) (ps : IsPart vs (some (-1)))
    (h : Q ((n : Int) - 1, -1, n) s) : wpAny (model prog w) A (Builtin.Slice.sliceApplied (.ref sl) (pure (n : Int))) Q E s := by
  obtain ⟨os, hos, hcs, hds⟩ := id hs
  unfold Builtin.Slice.sliceApplied Builtin.Slice.sliceFields
  refine wpAny_bind (wpAny_bind (wpAny_field hos hds (x := .none) rfl (wpAny_bind (wpAny_field hos hds (x := .none) rfl (wpAny_bind (wpAny_field hos hds (x := vs) rfl (wpAny_pure ?_)))))))
  refine wpAny_bind (HT.slicePart_ ps ?_)
  show wpAny _ _ (if ((-1 : Int) == 0) = true then _ else _) _ _ s
  rw [if_neg (by decide)]
  refine wpAny_bind (HT.slicePart_ .none (wpAny_bind (HT.slicePart_ .none (wpAny_bind (wpAny_pure ?_)))))
  show wpAny _ _ (match Builtin.Slice.sliceAdjust none none (-1) (n : Int) with | (lo, hi) => pure (lo, (-1 : Int), Builtin.Slice.slicePlaces lo hi (-1))) _ _ s
  rw [adjust_rev n]
  show wpAny _ _ (pure ((n : Int) - 1, (-1 : Int), Builtin.Slice.slicePlaces ((n : Int) - 1) (-1) (-1))) _ _ s
  rw [places_rev]
  exact wpAny_pure h
theorem pick_rev (xs : Array Value) : ((List.range xs.size).filterMap fun (m : Nat) => xs[((xs.size : Int) - 1 + (m : Int) * -1).toNat]?).toArray = xs.toList.reverse.toArray := by
  have e : (List.range xs.size).filterMap (fun (m : Nat) => xs[((xs.size : Int) - 1 + (m : Int) * -1).toNat]?) = (List.range xs.size).filterMap (fun m => xs.toList.reverse[m]?) := by
    refine fm_congr fun m hm => ?_
    have hm := List.mem_range.mp hm
    have e1 : ((xs.size : Int) - 1 + (m : Int) * -1).toNat = xs.size - 1 - m := by omega
    rw [e1, List.getElem?_reverse (by simpa using hm)]
    simp
  rw [e]
  have e2 : (List.range xs.size).filterMap (fun m => xs.toList.reverse[m]?) = xs.toList.reverse := by
    have := pick_run xs.toList.reverse.toArray 0 xs.size
    have e3 : List.take xs.size xs.toList.reverse = xs.toList.reverse := List.take_of_length_le (by simp)
    simpa [e3] using this
  rw [e2]
theorem getItem_tuple_rev {t sl : Addr} {items : Array Value} {vs : Value} {Q : Value → Shared → Prop} (ht : IsTup s.heap t items) (hs : s.heap.IsSliceOf sl .none .none vs) (ps : IsPart vs (some (-1)))
    (h : Q (.ref s.heap.objs.size) { s with heap := s.heap.push { cls := .type "tuple", data := .seq items.toList.reverse.toArray } })
    (hsz : items.size ≤ sizeLine) : wpAny (model prog w) A (getItem (.ref t) (.ref sl)) Q E s := by
  have htake : sizeOk (.seq items.toList.reverse.toArray) := by
    show items.toList.reverse.toArray.size ≤ sizeLine
    rw [List.size_toArray, List.length_reverse, Array.length_toList]
    exact hsz
  obtain ⟨os, hos, hcs, hds⟩ := id hs
  have hTs : s.TypeIs (.ref sl) "slice" := ⟨os, hos, hcs⟩
  unfold getItem
  try with_reducible refine wpAny_holding ?_
  first | refine wpAny_bind (wpAny_pure ?_) | skip
  refine wpAny_bind (wpAny_sequenceKey ht.typeIs (by decide) ?_)
  refine wpAny_bind (wpAny_callSpecial?_slot (name := Str.ofString "__getitem__") ht.typeIs PyProof.Rows.slot_tuple_getitem
    (wpAny_call_entry PyProof.Rows.slot_tuple_getitem ht.typeIs entry_tuple_getitem ?_ (args_tuple_getitem _ _)))
  show wpAny _ _ (Builtin.Tuple.tupleItemsOf (.ref t) >>= _) _ _ s
  refine wpAny_bind (tupleItemsOf_ ht ?_)
  refine wpAny_bind (wpAny_typeOf hTs ?_)
  rw [if_pos (by decide)]
  refine wpAny_bind (sliceApplied_rev hs ps ?_)
  have hno : ¬ ((((items.size : Int) - 1) == 0 && (-1 : Int) == 1 && items.size == items.size) = true) := by
    intro q
    rw [Bool.and_eq_true, Bool.and_eq_true] at q
    have q1 : (-1 : Int) = 1 := eq_of_beq q.1.2
    omega
  show wpAny _ _ (if (((items.size : Int) - 1) == 0 && (-1 : Int) == 1 && items.size == items.size) = true then _ else _) _ _ s
  rw [if_neg hno, pick_rev]
  first
    | exact wpAny_bind (m := Builtin.Tuple.tupleExact _) (wpAny_newObj_type (wpAny_pure ⟨_, rfl, wpAny_pure h⟩) htake)
    | exact wpAny_bind (m := Builtin.Tuple.tupleExact _) (wpAny_newObj_type (wpAny_bind (wpAny_pure (wpAny_pure ⟨_, rfl, wpAny_pure h⟩))) htake)
    | exact wpAny_bind (wpAny_bind (m := Builtin.Tuple.tupleExact _) (wpAny_newObj_type (wpAny_pure (wpAny_pure ⟨_, rfl, wpAny_pure h⟩)) htake))
    | exact wpAny_bind (wpAny_bind (m := Builtin.Tuple.tupleExact _) (wpAny_newObj_type (wpAny_pure ⟨_, rfl, wpAny_pure h⟩) htake))
end
section
variable {X : Cx} {W : WX} {pos : Pos}
def tRevT (K : PySem.W.Frag) (te : TE) : TE := fun σ H Q => te σ H fun x H1 => ∃ a xs, x = .ref a ∧ SqT K H1 a xs ∧ ∀ p, H1 p = none → Q (.ref p) (upd H1 p (.tup xs.reverse))
theorem revX_core {e : Expr} {te : TE} {k : Nat} {p1 p2 p3 pos : Pos} (he : PE X e te) : PE X (.Subscript e (.Slice none none (some (.UnaryOp .USub (.Constant (.int 1) k p1) p2)) p3) pos) (fun σ H Q => te σ H fun x H1 => (∃ a xs, x = .ref a ∧ SqL X.K H1 a xs ∧ ∀ p, H1 p = none → Q (.ref p) (upd H1 p (.lst xs.reverse))) ∨ (∃ a xs, x = .ref a ∧ SqT X.K H1 a xs ∧ ∀ p, H1 p = none → Q (.ref p) (upd H1 p (.tup xs.reverse)))) := by
  refine ⟨fun pins s σ H Q I h => ?_⟩
  refine Subscript_ (thn (he.run pins s σ H _ I h) fun v s1 ⟨x, H1, I1, r1, q1⟩ => ?_)
  have hst : PO X (some (.UnaryOp .USub (.Constant (.int 1) k p1) p2)) (tPart (tUn (rU fun i => .int (-i)) (tC (.int 1)))) := po_some (pe_un un_neg pe_int)
  refine wpAny_Slice (thn (po_none.run pins s1 σ H1 (fun o H2 => o = none ∧ H2 = H1) I1 ⟨rfl, rfl⟩) fun vl s2 ⟨l, H2, I2, pl, el, e2⟩ => ?_)
  subst el e2
  refine thn (po_none.run pins s2 σ H2 (fun o H3 => o = none ∧ H3 = H2) I2 ⟨rfl, rfl⟩) fun vu s3 ⟨u, H3, I3, pu, eu, e3⟩ => ?_
  subst eu e3
  refine thn (hst.run pins s3 σ H3 (fun o H4 => o = some (-1) ∧ H4 = H3) I3 ⟨1, rfl, -1, rfl, rfl, rfl⟩) fun vs s4 ⟨o, H4, I4, ps, eo, e4⟩ => ?_
  subst eo e4
  have I5 : Inv X pins σ H4 { s4 with heap := s4.heap.push { cls := .type "slice", data := .fields #[vl, vu, vs] } } := I4.kept (t' := s4.toks) fun b ob q => Heap.get?_push_of_some _ q
  cases pl
  cases pu
  rcases q1 with ⟨a, xs, ex, hx, q⟩ | ⟨a, xs, ex, hx, q⟩
  · subst ex
    cases r1
    obtain ⟨its, r, ht, hz⟩ := I5.list hx
    have hlen := r.length
    show wpAny (model X.prog X.w) X.A (subscriptTail e (.Slice none none (some (.UnaryOp .USub (.Constant (.int 1) k p1) p2)) p3) (.ref a) (.ref s4.heap.objs.size)) (EP X pins σ Q) X.xe { s4 with heap := s4.heap.push { cls := .type "slice", data := .fields #[.none, .none, vs] } }
    refine tail_any (ops := [.ref a, .ref s4.heap.objs.size]) ht.isList.typeIs (PySem.slot_list_getitem.lookup) ?_ (by with_unfolding_all rfl)
    refine wpAny_getItem_list_slice ht.isList (Heap.IsSliceOf.new _ .none .none vs) .none .none ps (by decide) ?_ (by rw [List.size_toArray]; omega)
    rw [PySem.W.krv_pick]
    refine ⟨.ref _, _, I5.laid (t' := s4.toks) (o := .lst xs.reverse) (fun b ob q => Heap.get?_push_of_some _ q) (Nat.le_refl _) ?_, rfl, q _ (I5.hok.fresh (Nat.le_refl _))⟩
    exact ⟨by rw [List.length_reverse]; exact hz, _, 0, r.reverse, Heap.get?_push_size _ rfl⟩
  · subst ex
    cases r1
    obtain ⟨its, r, ht, hz⟩ := I5.tuple hx
    have hlen := r.length
    show wpAny (model X.prog X.w) X.A (subscriptTail e (.Slice none none (some (.UnaryOp .USub (.Constant (.int 1) k p1) p2)) p3) (.ref a) (.ref s4.heap.objs.size)) (EP X pins σ Q) X.xe { s4 with heap := s4.heap.push { cls := .type "slice", data := .fields #[.none, .none, vs] } }
    refine tail_any (ops := [.ref a, .ref s4.heap.objs.size]) ht.typeIs (PyProof.Rows.slot_tuple_getitem.lookup) ?_ (by with_unfolding_all rfl)
    refine getItem_tuple_rev ht (Heap.IsSliceOf.new _ .none .none vs) ps ?_ (by rw [List.size_toArray]; omega)
    refine ⟨.ref _, _, I5.laid (t' := s4.toks) (o := .tup xs.reverse) (fun b ob q => Heap.get?_push_of_some _ q) (Nat.le_refl _) ?_, rfl, q _ (I5.hok.fresh (Nat.le_refl _))⟩
    exact ⟨by rw [List.length_reverse]; exact hz, _, r.reverse, IsTup.new _ _⟩
def revX : D → Option D
  | .list ds => some (.list ds.reverse)
  | .tuple ds => some (.tuple ds.reverse)
  | _ => none
theorem de_revX {e : Expr} {f : EM D} {k : Nat} {p1 p2 p3 : Pos} (he : DL X W e f) : DE X W (.Subscript e (.Slice none none (some (.UnaryOp .USub (.Constant (.int 1) k p1) p2)) p3) pos) (eUn revX f) := by
  refine PE.wk (revX_core he) fun σ H Q q => ?_
  obtain ⟨S, Z, F, h, q⟩ := q
  refine ⟨S, Z, F, h, (Go.bind q).mono fun d S1 c1 s1 h1 q1 x rx => ?_⟩
  obtain ⟨dd, e, k⟩ := Go.opt q1
  unfold revX at e
  split at e
  · cases e
    obtain ⟨p, xs, rfl, a1, r1⟩ := rx.lstI h1.zh
    refine .inl ⟨p, xs, rfl, SqL.of a1, fun pn hp => ?_⟩
    obtain ⟨st, hh, r⟩ := h1.layL hp r1.rev
    exact k _ st hh _ r
  · cases e
    obtain ⟨p, xs, rfl, a1, r1⟩ := rx.tupI
    refine .inr ⟨p, xs, rfl, sameT h1.zh a1, fun pn hp => ?_⟩
    obtain ⟨st, hh, r⟩ := h1.layT hp r1.rev
    exact k _ st hh _ r
  · cases e
theorem reads_ints {h : Heap} : ∀ {ns : List Int} {us : List Value}, Vals (ns.map V.int) us → PySem.W.HoldAll h us ns
  | [], us, r => by
    cases r
    exact PySem.W.HoldAll.nil
  | n :: ns, us, r => by
    cases r with
    | cons r1 r2 =>
      obtain ⟨t, rfl⟩ := r1
      exact PySem.W.HoldAll.cons ⟨_, .int n t⟩ (reads_ints r2)
theorem holds_int {h : Heap} {v : Value} {i : Int} (H : PySem.W.Holds h v i) : ∃ t, v = .int i t := by
  obtain ⟨as, r⟩ := H
  cases r
  exact ⟨_, rfl⟩
theorem cr_maxT (hc : X.calm = true) (hu : X.A.units + 64 < cLine) : CallR X (.builtin "max") (fun vs H Q => ∃ (a : Addr) (n : Int) (ns : List Int), vs = [V.ref a] ∧ SqT X.K H a ((n :: ns).map V.int) ∧ Q (.int (ns.foldl (fun a b => if a < b then b else a) n)) H) := by
  intro pins s σ H vs us Q I r h
  obtain ⟨a, n, ns, rfl, hs, q⟩ := h
  obtain ⟨its, rv, hl, _⟩ := I.tuple hs
  rw [Vals.ref1 r]
  have ho : PySem.W.HoldAll s.heap its.toArray.toList (n :: ns) := reads_ints rv
  refine PySem.W.max_tuple_datum (I.ok.hd hc) hl ho (by show X.A.units + 1 + 0 < cLine; omega) fun i v h' tk hv hh hk => ?_
  obtain ⟨t, rfl⟩ := holds_int hh
  have e : PySem.W.maxOf n ns = ns.foldl (fun a b => if a < b then b else a) n := by
    unfold PySem.W.maxOf
    congr 1
    funext a b
    show (if decide (a < b) = true then b else a) = _
    simp only [decide_eq_true_eq]
  rw [e] at hh ⊢
  exact ⟨.int _, H, I.kept hk, ⟨t, rfl⟩, q⟩
def maxT : List D → Option D
  | [.tuple ds] => ((allI ds).bind maxI).map PyData.int
  | _ => none
theorem cd_maxT (hc : X.calm = true) (hu : X.A.units + 64 < cLine) : CallD X W (.builtin "max") maxT := by
  refine ⟨_, cr_maxT hc hu, fun vs ds d S σ c Q e hh rs q => ?_⟩
  unfold maxT at e
  split at e
  · obtain ⟨m, e1, e2⟩ := Option.map_eq_some_iff.mp e
    obtain ⟨ns, e3, e4⟩ := Option.bind_eq_some_iff.mp e1
    subst e2
    obtain ⟨v, rfl, r⟩ := rs.one
    obtain ⟨a, xs, rfl, a1, r1⟩ := r.tupI
    rw [allI_ok e3] at r1
    cases r1.intsV
    cases ns with
    | nil => cases e4
    | cons n ns =>
      cases e4
      exact ⟨a, n, ns, rfl, sameT hh.zh a1, q c _ (Stp.refl _) hh (.int _)⟩
  · cases e
def maxX (as : List D) : Option D := match maxD as with
  | some r => some r
  | none => maxT as
theorem CallD.orElse {f : Value} {g g' : List D → Option D} (h : CallD X W f g) (h' : CallD X W f g') : CallD X W f (fun as => match g as with | some r => some r | none => g' as) := by
  obtain ⟨r, h1, h2⟩ := h
  obtain ⟨r', h1', h2'⟩ := h'
  refine ⟨_, CallR.or' h1 h1', fun vs ds es S σ c Q e hh rs q => ?_⟩
  simp only at e
  split at e
  · rename_i x hx
    exact .inl (h2 vs ds es S σ c Q (by rw [hx, e]) hh rs q)
  · exact .inr (h2' vs ds es S σ c Q e hh rs q)
theorem cd_maxX (hc : X.calm = true) (hu : X.A.units + 64 < cLine) : CallD X W (.builtin "max") maxX := CallD.orElse (cd_max hc) (cd_maxT hc hu)
end
end FW

/-! FwT2: a place of an own list or dict as one of several targets. -/
namespace FW
open PySem PySem.Spec L2
open PyProof.Rows hiding St
section
variable {X : Cx} {W : WX} {pos p p2 : Pos} {x : Str}
def gSubO (i : Nat) (fk : EM D) : Tg := fun d S => match slotAt S i with
  | some _ => match fk S with
    | .ok k S2 => ((S2[i]?).bind fun s => setAtD s k d).map fun s' => S2.set i s'
    | _ => none
  | none => none
theorem dg_sub (hu : X.A.units + 64 < cLine) (i : Nat) {k : Expr} {fk : EM D} (hk : DE X W k fk)
    (hN : X.N[i]? = some x := by rfl) (hvis : Vis X.env.scope x := by first | exact Or.inl rfl | exact Or.inr (Or.inl rfl) | exact Or.inr (Or.inr rfl)) (hd : (x == ("__debug__" : Str)) = false := by decide) (hcd : (x == ("__classdict__" : Str)) = false := by decide)
    (ha : ∀ v, assign (.Subscript (.Name x p) k p2) X.env v = (do
      let ov ← holding [v] (eval (.Name x p) X.env)
      let iv ← holding [v, ov] (eval k X.env)
      standAt p2
      holding [v, ov, iv] (setItem ov iv v)
      release [v, ov, iv] []) := by intro _; rfl) : DG X W (.Subscript (.Name x p) k p2) [] (gSubO i fk) := by
  refine PG.wk (pg_sub (pe_var hN hvis hd hcd) hk (PSet.or set_list (set_dict (by omega))) ha) fun y σ H Q q => ?_
  obtain ⟨S, Z, F, d, S', h, ry, e, q⟩ := q
  unfold gSubO at e
  split at e
  rotate_left
  · cases e
  rename_i d0 e0
  split at e
  rotate_left
  · cases e
  rename_i kk S2 ek
  obtain ⟨s', e1, e3⟩ := Option.map_eq_some_iff.mp e
  subst e3
  obtain ⟨p0, e2, _⟩ := h.loAt e0
  refine ⟨.ref p0, e2, S, Z, F, h, ?_⟩
  rw [ek]
  intro c2 s2 h2 z rz
  exact setAt_rd h2 e2 e1 (ry.mono s2.z) rz fun c' st hh => q σ c' (s2.trans st) hh (fun _ _ => rfl)
end
end FW

/-! FwT3: len(set(xs)) of any list of ints. -/
namespace FW
open PySem PySem.Spec L2
open PyProof.Rows hiding St
section
variable {X : Cx} {W : WX} {pos p p2 q : Pos}
/-- each once, in the order of the first -/
def ddI (ns : List Int) : List Int := ns.foldl step_dedup []
theorem firstMet_all (ns : List Int) : firstMet (fun i => ns.getD i 0) ns.length = ddI ns := by
  unfold firstMet ddI
  congr 1
  apply List.ext_getElem
  · simp
  intro i h1 h2
  rw [List.getElem_map, List.getElem_range, List.getD_eq_getElem?_getD, List.getElem?_eq_getElem h2]
  rfl
theorem ddI_le (ns : List Int) : (ddI ns).length ≤ ns.length := by
  rw [← firstMet_all]
  exact firstMet_length_le _ _
def tLenSetG (K : PySem.W.Frag) (ta : TE) : TE := fun σ H Q => ta σ H fun x H1 => ∃ (l : Addr) (ns : List Int), x = .ref l ∧ SqL K H1 l (ns.map V.int) ∧ ns.length ≤ 4000 ∧ Q (.int ((ddI ns).length : Nat)) H1
theorem pe_lenSetG {a : Expr} {ta : TE} (hg : Gl X "len") (hm : X.mg "len" = none) (hg2 : Gl X "set") (hm2 : X.mg "set" = none) (ha : PE X a ta) (hc : X.calm = true := by rfl)
    (na : starEach [a] X.env = (false, eval a X.env) :: starEach [] X.env := by rfl) : PE X (.Call (.Name "len" p) [.Call (.Name "set" p2) [a] [] q] [] pos) (tLenSetG X.K ta) := by
  refine ⟨fun pins s σ H Q I h => ?_⟩
  refine Call_ (ld_blt I hg hm boot_len ?_)
  refine PyProof.Rows.callWith_builtin1 (PyProof.Rows.args_cons ?_ rfl) rfl rfl
  refine Call_ (ld_blt I hg2 hm2 boot_set ?_)
  refine PyProof.Rows.callWith_type1 (PyProof.Rows.args_cons (thn (ha.run pins s σ H _ I h) fun v s1 ⟨x, H1, I1, r1, q1⟩ => PyProof.Rows.args_nil ?_) na) na rfl
  obtain ⟨l, ns, rfl, hq, hl, q1⟩ := q1
  cases r1
  obtain ⟨its, r, pl, hz⟩ := I1.list hq
  have hlen : its.toArray.size = ns.length := by rw [List.size_toArray, ← r.length, List.length_map]
  refine call_set_list (I1.ok.hd hc) pl.isList (by simpa using RZ.intsAre_vals r) (by rw [hlen]; unfold scanBound; omega) fun h' tk hS hk => ?_
  refine PyProof.Rows.args_nil ?_
  rw [hlen, firstMet_all] at hS
  obtain ⟨o, es, ep, t, ho, hex, hd, _, _, _, hf, hn⟩ := hS
  have hle := ddI_le ns
  have I2 : Inv X pins σ H1 { s1 with heap := h', toks := tk } := I1.kept fun b o e => hk b o (Heap.lt_size e) e
  exact call_len_set ho hex hd hf (by rw [hn]; omega) ⟨.int (ddI ns).length, H1, I2.tok _, ⟨_, by rw [hn]⟩, q1⟩
def lenSetD : D → Option D
  | .list ds => (allI ds).bind fun ns => if ns.length ≤ 4000 then some (.int ((ddI ns).length : Nat)) else none
  | _ => none
theorem de_lenSet {a : Expr} {f : EM D} (hg : Gl X "len") (hm : X.mg "len" = none) (hg2 : Gl X "set") (hm2 : X.mg "set" = none) (ha : DE X W a f) (hc : X.calm = true := by rfl)
    (na : starEach [a] X.env = (false, eval a X.env) :: starEach [] X.env := by rfl) : DE X W (.Call (.Name "len" p) [.Call (.Name "set" p2) [a] [] q] [] pos) (eUn lenSetD f) := by
  refine PE.wk (pe_lenSetG hg hm hg2 hm2 ha hc na) fun σ H Q q => ?_
  obtain ⟨S, Z, F, h, q⟩ := q
  refine ⟨S, Z, F, h, (Go.bind q).mono fun d S1 c1 s1 h1 q1 x rx => ?_⟩
  obtain ⟨dd, e, k⟩ := Go.opt q1
  unfold lenSetD at e
  split at e
  · obtain ⟨ns, e1, e2⟩ := Option.bind_eq_some_iff.mp e
    split at e2
    · rename_i hle
      cases e2
      obtain ⟨a1, xs, rfl, a2, r1⟩ := rx.lstI
      rw [allI_ok e1] at r1
      cases r1.intsV
      exact ⟨a1, ns, rfl, SqL.of (h1.zh _ _ a2), hle, k c1 (Stp.refl _) h1 _ (.int _)⟩
    · cases e2
  · cases e
end
end FW

/-! FwEx1: an own exception over ValueError, by way of another own class, whose __init__ says super().__init__(text + name) and keeps the name. -/
namespace FW
open PySem PySem.Spec L2
open PyProof.Rows hiding St
abbrev vI : String := "ValueError.__init__"
section
variable {prog : Program} {w : World} {A : Around} {E : Value → Shared → Prop} {h : Heap} {g : Array GenState} {d : Drawn} {t : Nat} {os : OsState}
variable {nm q : Str} {C N : Addr} {bs bm : List Value} {sn : List Str} {sub : List Value} {ab : Bool} {col : Option Bool} {dd : Option Addr} {k0 k1 k2 k3 k5 : Option Value}
/-- ValueError.__init__, bound to an exception, called -/
theorem bound_call {u e t0 : Addr} {rest : List Value} {Q : Value → Shared → Prop}
    (hC : h.get? C = some (excClassObj nm q C N bs bm true sn sub ab col dd k0 k1 k2 k3 k5 "ValueError.__new__")) (he : h.get? e = some (HandSPX.excO C t0)) (hu : h.get? u = some (PySem.W.kxs_mw vI e)) (hz : rest.length ≤ sizeLine)
    (hq : ∀ h' t1, (∀ b o, b ≠ e → h.get? b = some o → h'.get? b = some o) → h'.get? e = some (HandSPX.excO C t1) → Q .none ⟨h', g, d, t, os⟩) :
    wpAny (model prog w) A (call (.ref u) rest) Q E ⟨h, g, d, t, os⟩ := by
  refine wpAny_call (codeAny_of_tree ?_)
  show wpAny _ A.in1 (callAny (.ref u) ⟨rest, []⟩) _ _ _
  simp only [callAny]
  refine wpAny_bind (wpAny_load hu ?_)
  have c1 : (Value.type "method-wrapper" == Value.type "method" || Value.type "method-wrapper" == Value.type "builtin_function_or_method" || Value.type "method-wrapper" == Value.type "method-wrapper") = true := by decide
  simp only [PySem.W.kxs_mw, c1, if_true]
  refine PySem.W.KFB.if_so (by decide) (wpAny_bind (PySem.W.check_bound_init F.excBase_ValueError.toExcCallFacts hC he rfl (wpAny_bind (wpAny_pure (wpAny_pure ?_)))))
  exact ⟨plainId_quiet F.excBase_ValueError.init.plain _, codeAny_builtin F.excBase_ValueError.initEntry (PySem.W.exc_init_tree (cls := .ref C) (t0 := t0) (dv := none) (c2 := .none) (c3 := .none) (b4 := .bool false) he hz fun h' k e1 _ => hq h' _ k e1)⟩
end
/-- the body: super().__init__(m + y); self.y = y -/
def exBody (m y : Str) (j : Nat) (p0 p1 p2 p3 p4 p5 p6 p7 p8 p9 p10 p11 : Pos) : List Stmt :=
  [.Expr (.Call (.Attribute (.Call (.Name "super" p0) [] [] p1) "__init__" p2) [.BinOp (.Constant (.str m) j p3) .Add (.Name y p4) p5] [] p6) p7,
   .Assign [.Attribute (.Name "self" p8) y p9] (.Name y p10) p11]
/-- the call of the bound __init__ -/
def exCall (m y : Str) (j : Nat) (p0 p1 p2 p3 p4 p5 p6 : Pos) : Expr := .Call (.Attribute (.Call (.Name "super" p0) [] [] p1) "__init__" p2) [.BinOp (.Constant (.str m) j p3) .Add (.Name y p4) p5] [] p6
/-- what the names' kinds make of the body -/
structure ExEnv (env : Env) (m y : Str) (j : Nat) (p0 p1 p2 p3 p4 p5 p6 p7 p8 p9 p10 p11 : Pos) : Prop where
  it : interactive env = false
  s1 : swapsWith (exCall m y j p0 p1 p2 p3 p4 p5 p6) none p7.line env = pure false
  ev : ∃ pl : Sem Bool, eval (exCall m y j p0 p1 p2 p3 p4 p5 p6) env = (do
      let ov ← attributeBase (.Call (.Name "super" p0) [] [] p1) "__init__" env (eval (.Call (.Name "super" p0) [] [] p1) env)
      standAt p2.atName
      let (f, first) ← holding [ov] (getMethod ov "__init__" pl)
      callWith p6 f first (backTo p6 (starEach [.BinOp (.Constant (.str m) j p3) .Add (.Name y p4) p5] env)) [])
  se : starEach [.BinOp (.Constant (.str m) j p3) .Add (.Name y p4) p5] env = (false, eval (.BinOp (.Constant (.str m) j p3) .Add (.Name y p4) p5) env) :: starEach [] env
  s2 : swapsWith (.Name y p10) (some (.Attribute (.Name "self" p8) y p9)) p11.line env = pure false
/-- what the written part says of such a class -/
structure ExI (prog : Program) (K : PySem.W.Frag) (C fI cc : Addr) (fd : FuncData) (qual m y : Str) (scope : Scope) : Prop where
  oe : OexC K C
  ic : PySem.W.findIn K (.ref C) "__init__" = some (some (.ref fI))
  ti : PySem.W.typeIn K (.ref fI) = some (.type "function")
  nof : PySem.W.findIn K (.ref C) y = some none
  fn : ∃ (oc : Value) (od : Option Addr) (params : Arguments) (dV kV doc pm ct : Value) (an : Option Addr) (cda : Addr) (osl : Array (Option Value)) (j : Nat) (p0 p1 p2 p3 p4 p5 p6 p7 p8 p9 p10 p11 : Pos) (ar : Arg) (ccl : Value) (cdd : Option Addr) (vs : Array Value) (ccs : Array (Option Value)) (file : Str) (tf : Tok),
    fd = PySem.W.ksFn "__init__" qual params (exBody m y j p0 p1 p2 p3 p4 p5 p6 p7 p8 p9 p10 p11) scope dV kV doc pm an (.ref cda) ct cc ∧ K.lookup fI = some ⟨oc, od, .func fd, osl⟩ ∧ PySem.W.codeIn K (.ref cda) qual = true ∧
    (∀ L, ExEnv (callEnv fd L fI) m y j p0 p1 p2 p3 p4 p5 p6 p7 p8 p9 p10 p11) ∧ (params.posonlyargs ++ params.args).head? = some ar ∧ ar.arg = "self" ∧ K.lookup cda = some ⟨ccl, cdd, .fields vs, ccs⟩ ∧ vs[2]? = some (.str file tf) ∧ ((prog.main.file : Str) == file) = true
  cell : ∃ (cl : Value) (cld : Option Addr) (csl : Array (Option Value)), K.lookup cc = some ⟨cl, cld, .cell (some (.ref C)), csl⟩
  sup : PySem.W.ks_superIn K C C "__init__" = some (some (.builtin vI))
  nsup : PySem.W.nsIn K mainGlobals "super" = some none
  nth : PySem.W.nsIn K cStatics "thirdparty.any" = some none
  sV : PySem.W.subIn K (.ref C) (.type "ValueError") = some true
  sC : PySem.W.mroIn K C (.ref C) = some true
  top : (prog.main.scope.names.lookup ("super" : Str)).isSome = false
  k1 : scope.names.lookup ("super" : Str) = some .globalImplicit
  k2 : scope.names.lookup ("__class__" : Str) = some .free
  k3 : scope.names.lookup ("self" : Str) = some .local
  k4 : scope.names.lookup y = some .local
  kk : scope.kind = .function
  kco : scope.isCoroutine = false
  kge : scope.isGenerator = false
  kce : ∀ x ∈ scope.names, x.2 ≠ .cell
  yd : (y == ("__debug__" : Str)) = false
  ys : y ≠ "self"
  yl : m.length ≤ 1000
theorem bt_super : bootBuiltins "super" = some (.type "super") := by decide +kernel
section
variable {prog : Program} {w : World} {A : Around} {s : Shared} {K : PySem.W.Frag} {C fI cc a t0 : Addr} {fd : FuncData} {qual m y : Str} {scope : Scope} {mg mb : Str → Option Value} {args : Args} {z : Str} {tz : Tok} {R : Result → Shared → Prop}
set_option maxHeartbeats 4000000 in
theorem init_raw (I : ExI prog K C fI cc fd qual m y scope) (hroom : A.depth < recursionLimit) (X : K.In s.heap) (hlim : s.heap.NoLimit) (hg : s.heap.Ns mainGlobals mg) (hmg : ∀ x, PySem.W.nsIn K mainGlobals x = some none → mg x = none) (hb : s.heap.Ns builtinsNs mb) (hmb : mb "super" = bootBuiltins "super")
    (he : s.heap.get? a = some (HandSPX.excO C t0)) (hbind : BindsTo s fd args [("self", .ref a), (y, .str z tz)]) (hzl : z.length ≤ 100000) (hKa : K.lookup a = none)
    (h : ∀ h' tk dx t1, (∀ b o, b ≠ a → s.heap.get? b = some o → h'.get? b = some o) → s.heap.objs.size ≤ dx → dx ≠ a → h'.get? a = some { cls := .ref C, dict := some dx, data := .fields #[.ref t1, .none, .none, .none, .bool false, .none] } →
      h'.Ns1 dx (fun q => if q = y then some (.str z tz) else none) → R (.ok (.ret .none)) ⟨h', s.gens, s.drawn, tk, s.os⟩) :
    codeAny (model prog w) A (.call (.ref fI) args) R s := by
  obtain ⟨oc, od, params, dV, kV, doc, pm, ct, an, cda, osl, j, p0, p1, p2, p3, p4, p5, p6, p7, p8, p9, p10, p11, ar, ccl, cdd, vs, ccs, file, tf, efd, lk, hcd, hen, hp, har, lcd, hvs, hfile⟩ := I.fn
  obtain ⟨cl, cld, csl, lcc⟩ := I.cell
  obtain ⟨nm, q, N, bs, bm, sn, sub, ab, col, dd, k0, k1, k2, k3, k5, hC, hbm⟩ := I.oe.cls
  have hcl : PySem.W.clsIn K C = some { name := nm, bases := bs, mro := .ref C :: bm, ns := N, qualname := q, hasDict := true, slotNames := sn, subclasses := sub, abstract := ab, collection := col, hasDel := false } := by
    unfold PySem.W.clsIn
    rw [hC]
  subst efd
  have haC : a ≠ C := fun e => by
    have := X _ _ hC
    rw [← e, he] at this
    cases this
  refine ks_codeAny_call_defAt (fd := PySem.W.ksFn "__init__" qual params _ scope dV kV doc pm an (.ref cda) ct cc) hroom (X _ _ lk) rfl hlim (PySem.W.codeRec_of X hcd) rfl hbind I.kce (fun x hx => ?_) (fun h0 hns hk => ?_) I.kco I.kge I.kk
  · rcases List.mem_cons.mp hx with rfl | hx
    · exact I.k3
    · rw [List.mem_singleton.mp hx]
      exact I.k4
  obtain ⟨hp0, g, dr, tk, os⟩ := s
  have X0 : K.In h0 := X.keeps hk
  have hself : List.lookup ("self" : Str) ([(("self" : Str), Value.ref a), (y, Value.str z tz)].reverse) = some (Value.ref a) := by
    have e : (("self" : Str) == y) = false := by
      rw [beq_eq_false_iff_ne]
      exact fun e => I.ys e.symm
    show List.lookup ("self" : Str) [(y, Value.str z tz), (("self" : Str), Value.ref a)] = _
    rw [List.lookup_cons, e, List.lookup_cons_self]
  have hy : List.lookup y ([(("self" : Str), Value.ref a), (y, Value.str z tz)].reverse) = some (Value.str z tz) := by
    show List.lookup y [(y, Value.str z tz), (("self" : Str), Value.ref a)] = _
    rw [List.lookup_cons_self]
  have hea : h0.get? a = some (HandSPX.excO C t0) := hk _ _ he
  have hC0 : h0.get? C = some _ := X0 _ _ hC
  have hlt : a < h0.objs.size := Heap.lt_size hea
  have en := hen hp0.objs.size
  obtain ⟨pl, ev⟩ := en.ev
  refine ks_wpAt_execs_cons (ks_wpAt_Expr_any (ks_wpAt_MethodCall (pl := pl) ?_ ev) en.it en.s1)
  refine ks_wpAt_super_base (f := fI) (cc := cda) I.k1 I.k2 rfl rfl (X0 _ _ lk) rfl hp rfl (X0 _ _ lcd) rfl hvs hfile I.top ?_
  refine PySem.W.ks_loadName_global I.kk I.k1 (PySem.Calls.loadGlobal_builtin (hg.keeps hk) (hmg _ I.nsup) (hb.keeps hk) (hmb.trans bt_super) ⟨rfl, ?_⟩)
  refine wpAny_loadName_free I.kk I.k2 rfl ⟨_, X0 _ _ lcc, rfl⟩ ?_
  rw [har]
  refine wpAny_loadName_local I.kk I.k3 hns hself ?_
  refine ks_wpAny_isType_cls hC0 rfl ⟨rfl, ?_⟩
  refine ks_wpAny_call_super hC0 rfl hea rfl (fun c e => by cases e) (PySem.W.looks_mroIn X0 I.sC) (fun h1 so k1' => ?_)
  have X1 : K.In h1 := X0.keeps k1'
  have hea1 : h1.get? a = some (HandSPX.excO C t0) := k1' _ _ hea
  have Ins : PySem.W.InstAt h1 a (HandSPX.excO C t0) C none := ⟨hea1, rfl, rfl, trivial⟩
  refine PySem.W.kxs_getMethod PySem.W.kxs_ValueError so (PySem.W.looks_opaque X1 I.nth) (l₀ := .ref C :: bm) (fun A Q E s k q => wpAny_bind ((PySem.W.looks_clsIn X1 hcl) A _ E s k (wpAny_pure q))) rfl X1 (by
    have e := I.sup
    unfold PySem.W.ks_superIn at e
    rw [hcl] at e
    exact e) (Ins.type.andThen (PySem.W.looks_subIn X1 I.sV)) haC rfl ?_
  obtain ⟨h2, eh2⟩ : ∃ h2, h2 = h1.push (PySem.W.kxs_mw vI a) := ⟨_, rfl⟩
  rw [← eh2]
  have k2' : ∀ b o, h1.get? b = some o → h2.get? b = some o := fun b o e => by
    rw [eh2]
    exact Heap.get?_push_of_some _ e
  have hu : h2.get? h1.objs.size = some (PySem.W.kxs_mw vI a) := by
    rw [eh2]
    exact Heap.get?_push_size _ rfl
  have k02 : ∀ b o, h0.get? b = some o → h2.get? b = some o := fun b o e => k2' b o (k1' b o e)
  have hns2 := hns.keeps k02
  refine PySem.W.kxs_callWith (i := vI) (x := a) ?_ ?_
  · rw [en.se]
    rfl
  rw [en.se]
  refine PySem.Calls.evalArgs_plain (PySem.Calls.spliced_cons (wpAny_BinOp (PySem.Calls.Constant_str (wpAny_Name (wpAny_loadName_local I.kk I.k4 hns2 hy (PyProof.Rows.add_str (fun t' tk' => PySem.Calls.spliced_nil ⟨hu, ?_⟩) ?_)) I.yd))))
  · refine bound_call (X0.keeps k02 _ _ hC) (k02 _ _ hea) hu (by show 1 ≤ sizeLine; rw [sizeLine_eq]; omega) fun h3 t1 k3' hea3 => ?_
    have hns3 : h3.Ns hp0.objs.size _ := hns2.at fun o e => k3' _ _ (Nat.ne_of_gt (Heap.lt_size he)) e
    have hk3 : ∀ b o, b ≠ a → hp0.get? b = some o → h3.get? b = some o := fun b o n e => k3' b o n (k02 b o (hk b o e))
    have X3 : K.In h3 := fun b o e => by
      refine hk3 b o (fun z => ?_) (X b o e)
      rw [z, hKa] at e
      cases e
    refine ks_wpAt_execs_cons (ks_wpAt_Assign_Attr (wpAt_of_wpAny (wpAny_Name (wpAny_loadName_local I.kk I.k4 hns3 hy (wpAny_Name (wpAny_loadName_local I.kk I.k3 hns3 hself ?_) (by decide))) I.yd)) en.s2)
    have Ins3 : PySem.W.InstAt h3 a (HandSPX.excO C t1) C none := ⟨hea3, rfl, rfl, trivial⟩
    refine PySem.W.set_plain X3 Ins3 I.oe.sa (HandSPX.exc_osa X3 hea3 hcl (show HandSPX.refsVE (.ref C :: bm) = true from hbm) rfl I.nof fun h4 tk4 dx k4' hdx hne hea4 hns4 => ?_)
    refine wpAt_of_wpAny (wpAny_execs_nil ?_)
    refine h h4 tk4 dx t1 (fun b o n e => k4' b o n (hk3 b o n e)) (Nat.le_trans ?_ hdx) hne hea4 hns4
    have l1 : hp0.objs.size < h3.objs.size := by
      obtain ⟨o, _, _, e1, _⟩ := hns3
      exact Heap.lt_size e1
    exact Nat.le_of_lt l1
  · have := I.yl
    rw [sizeLine_eq]
    omega
end
end FW

/-! FwEx2: such an exception raised, and caught: its field given back or compared. -/
namespace FW
open PySem PySem.Spec L2
open PyProof.Rows hiding St
/-- what such an __init__ promises -/
def spXI (C : Addr) (y : Str) : Sp := fun vs H Q _ => ∃ (a : Addr) (x : Str), vs = [.ref a, .str x] ∧ x.length ≤ 100000 ∧ H a = some (exo a C none) ∧
  ∀ dx, H dx = none → dx ≠ a → Q .non (upd (upd H dx (exd dx [(y, .str x)])) a (exo a C (some dx)))
section
variable {P : Program} {w : World} {K : PySem.W.Frag} {mg : Str → Option Value} {base : Heap} {C fI cc : Addr} {fd : FuncData} {qual m y : Str} {scope : Scope}
theorem ok_exI (I : ExI P K C fI cc fd qual m y scope) : FnOk P w K mg base CX0 1 fI fd ["self", y] (spXI C y) := by
  refine ⟨fun vs H Q E h => ?_, fun A outer s H args us vs Q E hr e0 hb r hsp => ?_⟩
  · obtain ⟨a, x, rfl, _⟩ := h
    rfl
  obtain ⟨a, x, rfl, hxl, ha, q⟩ := hsp
  obtain ⟨t, rfl⟩ : ∃ t, us = [.ref a, .str x t] := by
    cases r with
    | cons r1 r2 =>
      cases r2 with
      | cons r3 r4 =>
        cases r4
        cases r1
        obtain ⟨t, rfl⟩ := r3
        exact ⟨t, rfl⟩
  have bk : ∀ b o, base.get? b = some o → s.heap.get? b = some o := fun b o e => (e0.bs b o e).1
  have KX : K.In s.heap := e0.mod.kin.keeps bk
  obtain ⟨t0, ho⟩ := exo_at e0.hok ha
  have hKa : K.lookup a = none := by
    cases e : K.lookup a with
    | none => rfl
    | some o =>
      have := (e0.bs a o (e0.mod.kin _ _ e)).2
      rw [ha] at this
      cases this
  obtain ⟨mb, hmb1, hmb2⟩ := e0.mod.blt
  refine init_raw (mg := mg) (mb := mb) (tz := t) I (by have := hr.dp; omega) KX (e0.mod.nolimit.keeps bk) (e0.mod.glob.keeps bk) (fun x hx => PySem.W.mg_none_of e0.mod.kin e0.mod.glob hx) (hmb1.keeps bk) (hmb2 _ (by decide)) ho hb hxl hKa fun h' tk dx t1 k hd hne hea hns => ?_
  have hnd : H dx = none := e0.hok.fresh hd
  have nd : ∀ {b : Addr} {o : Obj}, s.heap.get? b = some o → b ≠ dx := fun {b o} z => Nat.ne_of_lt (Nat.lt_of_lt_of_le (Heap.lt_size z) hd)
  have na : ∀ {b : Addr}, H b = none → b ≠ a := fun {b} n z => by
    rw [z, ha] at n
    cases n
  refine ⟨.non, upd (upd H dx (exd dx [(y, .str x)])) a (exo a C (some dx)), rfl, e0.bare, ?_, ?_, rfl, q dx hnd hne⟩
  · exact {
      keep := fun b o z n _ _ => k b o (na n) z
      slot := fun b o z n _ _ => ⟨o.slots, k b o (na n) z⟩
      free := fun b o z n _ => (upd_ne (na n)).trans ((upd_ne (nd z)).trans n)
      there := fun b o z _ => by
        by_cases e : b = a
        · subst e
          exact ⟨_, hea⟩
        · exact ⟨o, k b o e z⟩
      tups := fun b xs z => (upd_ne (at_ne ha z exo_tup)).trans ((upd_ne (ne_of_none z hnd)).trans z)
      frzs := fun b o v z => (upd_ne (at_ne ha z exo_frz)).trans ((upd_ne (ne_of_none z hnd)).trans z)
      tbls := fun b ps z => ⟨#[], ((upd_ne (at_ne ha z exo_tbl)).trans ((upd_ne (ne_of_none z hnd)).trans z)).trans (by simp)⟩ }
  · intro b o z
    by_cases e1 : b = a
    · subst e1
      rw [upd_same] at z
      cases z
      exact exo_ok hea
    rw [upd_ne e1] at z
    by_cases e2 : b = dx
    · subst e2
      rw [upd_same] at z
      cases z
      exact exd_ok hns (relO_put (fs := []) (u := Value.str x t) ⟨t, rfl⟩ fun _ => True.intro)
    rw [upd_ne e2] at z
    refine (e0.hok b o z).stay (fun c v hc zz => k c v ?_ zz) (fun c hc => (upd_ne (at_ne ha hc exo_own)).trans ((upd_ne (ne_of_none hc hnd)).trans hc)) (fun c xs hc => (upd_ne (at_ne ha hc exo_tup)).trans ((upd_ne (ne_of_none hc hnd)).trans hc))
    rcases hc with hc | hc
    · rw [hc]
      exact e1
    · exact at_ne ha hc exo_own
end
/-- an own exception class that may be raised by its name -/
structure ExC (P : Program) (w : World) (K : PySem.W.Frag) (mg : Str → Option Value) (base : Heap) (cls : String) (y : Str) : Prop where
  ex : ∃ (C fI : Addr) (fd : FuncData), mg (Str.ofString cls) = some (.ref C) ∧ OexC K C ∧ PySem.W.findIn K (.ref C) "__init__" = some (some (.ref fI)) ∧ PySem.W.typeIn K (.ref fI) = some (.type "function") ∧ FnOk P w K mg base CX0 1 fI fd ["self", y] (spXI C y) ∧
    L2.Binds K fd ["self", y] [] ∧ PySem.W.exmOne K (.ref C) (.ref C) = some true ∧ XfC K C ∧ PySem.W.findIn K (.ref C) y = some none
section
variable {X : Cx} {W : WX} {pos p p2 : Pos} {e : Expr} {f : EM D} {cls : String} {y : Str}
def sRaise (cls : String) (y : Str) (f : EM D) : SM := sOf f fun d S => match d with
  | .str z => if z.length ≤ 100000 then .ex ⟨cls, [(y, .str z)]⟩ S else .bad
  | _ => .bad
theorem ds_raise (tk : Takes X W) (T : ExC X.prog X.w X.K X.mg X.base cls y) (hr : Room 2 X.A) (he : DE X W e f) (hc : X.calm = true := by rfl) (hg : Gl X (Str.ofString cls) := by rfl) (hdb : ((Str.ofString cls) == ("__debug__" : Str)) = false := by decide)
    (hse : starEach [e] X.env = (false, eval e X.env) :: starEach [] X.env := by rfl) (hpl : (backTo pos (starEach [] X.env)).any (·.1) = false := by rfl) :
    DS X W (.Raise (some (.Call (.Name (Str.ofString cls) p) [e] [] pos)) none p2) (sRaise cls y f) := by
  obtain ⟨C, fI, fd, hm, oe, ic, ti, F1, hb, _⟩ := T.ex
  have ha : DA X W [e] (aCons f aNil) := da_cons he da_nil hse
  refine PS.wk (ps_raise hc tk (pmk_oex (ds := []) (dvs := []) oe ic ti F1 hr hb .nil pass0 hg hm ha hdb hse hpl)) fun Q σ H q => ?_
  obtain ⟨S, Z, F, h, q⟩ := q
  have q' : Go (gx X W) σ ⟨Z, H, F⟩ (f S) (fun d S' c' => GoS (gx X W) c' Q (match d with | .str z => if z.length ≤ 100000 then .ex ⟨cls, [(y, .str z)]⟩ S' else .bad | _ => .bad)) := Go.toS q fun dd S1 c1 s1 h1 q1 => q1
  refine ⟨S, Z, F, h, ?_⟩
  have q2 : Go (gx X W) σ ⟨Z, H, F⟩ (aCons f aNil S) (fun ds S' c' => ∃ d, ds = [d] ∧ GoS (gx X W) c' Q (match d with | .str z => if z.length ≤ 100000 then .ex ⟨cls, [(y, .str z)]⟩ S' else .bad | _ => .bad)) := by
    unfold aCons eBind
    cases ef : f S with
    | ok d S1 =>
      rw [ef] at q'
      intro c' s' h'
      exact ⟨d, rfl, q' c' s' h'⟩
    | ex x S1 => rw [ef] at q'; exact q'
    | bad => rw [ef] at q'; exact q'
  refine q2.mono fun ds S1 c1 s1 h1 q3 vs rs => ?_
  obtain ⟨d, rfl, q3⟩ := q3
  cases rs with
  | cons r1 r2 =>
    cases r2
    cases d with
    | str z =>
      cases r1
      by_cases hz : z.length ≤ 100000
      · have q4 : ∀ σ' c' cls' dx, Stp c1 c' → Holds X.K S1 σ' c' → ExOk X.mg c'.Z ⟨cls, [(y, .str z)]⟩ cls' dx → W cls' dx σ' c'.H := by
          have := q3
          simp only [hz, if_true] at this
          exact this
        refine ⟨by show 1 ≤ 1000; decide, fun a na => ⟨a, z, rfl, hz, upd_same, fun dx hdx hne => ⟨rfl, dx, [(y, .str z)], upd_same, (upd_ne hne).trans upd_same, ?_, ?_⟩⟩⟩
        · have z1 : upd c1.H a (exo a C none) dx = none := hdx
          rw [upd_ne hne] at z1
          exact z1
        · have hdx1 : c1.H dx = none := by
            have z1 : upd c1.H a (exo a C none) dx = none := hdx
            rw [upd_ne hne] at z1
            exact z1
          have eH : upd (del (upd (upd (upd c1.H a (exo a C none)) dx (exd dx [(y, V.str z)])) a (exo a C (some dx))) a) dx (.xd [(y, V.str z)]) = upd c1.H dx (.xd [(y, V.str z)]) := by
            funext b
            by_cases e1 : b = dx
            · subst e1
              rw [upd_same, upd_same]
            rw [upd_ne e1, upd_ne e1]
            by_cases e2 : b = a
            · subst e2
              rw [del_same, na]
            rw [del_ne e2, upd_ne e2, upd_ne e1, upd_ne e2]
          rw [eH]
          obtain ⟨s2, h2⟩ := h1.lay (o := .xd [(y, V.str z)]) hdx1
          exact q4 σ (c1.lay dx (.xd [(y, V.str z)])) (.ref C) (some dx) s2 h2 ⟨C, dx, hm, rfl, rfl, upd_same⟩
      · have : GoS (gx X W) c1 Q .bad := by
          have := q3
          simp only [hz, if_false] at this
          exact this
        exact this.elim
    | _ => exact q3.elim
/-! ### caught -/
def sTry (cls : String) (i : Nat) (body : SM) (g : List (Str × V) → SM) : SM := fun S => match body S with
  | .ex e S1 => if e.cls = cls ∧ i < S1.length then g e.fs S1 else .bad
  | o => o
/-- return e.y; return e.y == m -/
def gRet (y : Str) : List (Str × V) → SM := fun fs S => match fs.lookup y with
  | some (.str x) => .rt (.str x) S
  | _ => .bad
def gCmp (y m : Str) : List (Str × V) → SM := fun fs S => match fs.lookup y with
  | some (.str x) => .rt (.bool (decide (x = m))) S
  | _ => .bad
variable {n : Str} {i : Nat} {body : List Stmt} {np np2 pos' p3 p4 p5 : Pos} {fb : SM} {g : List (Str × V) → SM} {b0 : Stmt} {suite : List Stmt}
theorem ds_try (T : ExC X.prog X.w X.K X.mg X.base cls y) (hN : X.N.Nodup) (hi : X.N[i]? = some n) (hln : X.env.kindOf n = some .local) (hs : X.stack = X.env :: X.outer) (hf : X.env.frame = some X.env.locals) (hg : Gl X (Str.ofString cls)) (hdb : ((Str.ofString cls) == ("__debug__" : Str)) = false)
    (hb : ∀ (W : WX) (pn : List (Addr × Obj)) (xe : Value → Shared → Prop), Takes (X.tr pn xe) W → DSs (X.tr pn xe) W body fb)
    (ts : Addr → Value → Option Addr → TS)
    (hsu : ∀ (a : Addr) (oe : Obj) (c : Value) (d : Option Addr) (pn : List (Addr × Obj)), Zc c d oe → (∃ vs, oe.data = .fields vs) → PSs (X.suite a ((a, oe) :: pn)) (b0 :: suite) (ts a c d))
    (hts : ∀ (a d C : Addr) (fs : List (Str × V)) (S : List Slot) (σ : Sg) (c : Cfg) (Q : Ends), X.mg (Str.ofString cls) = some (.ref C) → Holds X.K S σ c → i < σ.length → c.H a = none → c.H d = some (.xd fs) → GoS (gx X W0) c Q (g fs S) →
      ts a (.ref C) (some d) { nx := fun σ' H' => Q.nx (σ'.set i none) H', rt := Q.rt, bk := fun σ' H' => Q.bk (σ'.set i none) H', ct := fun σ' H' => Q.ct (σ'.set i none) H' } (σ.set i (some (.ref a))) c.H) :
    DS X W0 (.Try body [.ExceptHandler (some (.Name (Str.ofString cls) np)) (some n) (b0 :: suite) pos'] [] [] pos) (sTry cls i fb g) := by
  obtain ⟨C, fI, fd, hm, oe, ic, ti, F1, hbi, hex, hxf, hno⟩ := T.ex
  refine PS.wk (ps_try_as (c := .ref C) (Wout := W0) (tb := fun W => tS (gx X W) fb) hs hf hN hi hln ⟨hg, hdb, .inl hm⟩ takes0 (fun W pn xe tk _ => hb W pn xe tk) hsu) fun Q σ H q => ?_
  obtain ⟨S, Z, F, h, q⟩ := q
  refine ⟨S, Z, F, h, ?_⟩
  have q1 : GoS (gx X W0) ⟨Z, H, F⟩ Q (match fb S with | .ex e S1 => if e.cls = cls ∧ i < S1.length then g e.fs S1 else .bad | o => o) := q
  cases eb : fb S with
  | ex x S1 =>
    rw [eb] at q1
    have q1 : GoS (gx X W0) ⟨Z, H, F⟩ Q (if x.cls = cls ∧ i < S1.length then g x.fs S1 else .bad) := q1
    by_cases hc : x.cls = cls ∧ i < S1.length
    · rw [if_pos hc] at q1
      intro σ' c' cls' dx st hh xo
      obtain ⟨C', d, m1, rfl, rfl, m2⟩ := xo
      have eC : C' = C := by
        have m1 : X.mg (Str.ofString x.cls) = some (.ref C') := m1
        rw [hc.1, hm] at m1
        cases m1
        rfl
      subst eC
      exact ⟨true, hex, fun _ a na => hts a d C' x.fs S1 σ' c' Q hm hh (by rw [hh.l.len]; exact hc.2) na (hh.zh _ _ m2) (q1.step st), fun z => by cases z⟩
    · rw [if_neg hc] at q1
      exact q1.elim
  | nx S1 => rw [eb] at q1; exact q1
  | rt d S1 => rw [eb] at q1; exact q1
  | bk S1 => rw [eb] at q1; exact q1
  | ct S1 => rw [eb] at q1; exact q1
  | bad => rw [eb] at q1; exact q1.elim
theorem set_at {σ : Sg} {x : Option V} (h : i < σ.length) : (σ.set i x)[i]? = some x := by
  rw [List.getElem?_set_self h]
theorem ds_tryRet (T : ExC X.prog X.w X.K X.mg X.base cls y) (hN : X.N.Nodup)
    (hb : ∀ (W : WX) (pn : List (Addr × Obj)) (xe : Value → Shared → Prop), Takes (X.tr pn xe) W → DSs (X.tr pn xe) W body fb)
    (hi : X.N[i]? = some n := by rfl) (hln : X.env.kindOf n = some .local := by rfl) (hs : X.stack = X.env :: X.outer := by rfl) (hf : X.env.frame = some X.env.locals := by rfl) (hg : Gl X (Str.ofString cls) := by rfl) (hdb : ((Str.ofString cls) == ("__debug__" : Str)) = false := by decide)
    (hv : Vis X.env.scope n := by first | exact Or.inl rfl | exact Or.inr (Or.inl rfl) | exact Or.inr (Or.inr rfl)) (hd : (n == ("__debug__" : Str)) = false := by decide) (hcd : (n == ("__classdict__" : Str)) = false := by decide) :
    DS X W0 (.Try body [.ExceptHandler (some (.Name (Str.ofString cls) np)) (some n) [.Return (some (.Attribute (.Name n p3) y p4)) p5] pos'] [] [] pos) (sTry cls i fb (gRet y)) := by
  obtain ⟨C, fI, fd, hm, oe, ic, ti, F1, hbi, hex, hxf, hno⟩ := id T.ex
  refine ds_try T hN hi hln hs hf hg hdb hb (fun a c d => tSeq (tRet (tXf a c d C y (tVar i))) tNext) (fun a oe c d pn hz hf => pss_cons (ps_ret (pe_xf hxf hno hz hf (pe_var hi hv hd hcd))) pss_nil) fun a d C' fs S σ c Q m1 hh hl na hd q => ?_
  have eC : C' = C := by
    rw [hm] at m1
    cases m1
    rfl
  subst eC
  unfold gRet at q
  cases el : fs.lookup y with
  | none => rw [el] at q; exact q.elim
  | some v =>
    rw [el] at q
    cases v with
    | str x => exact ⟨.ref a, set_at hl, rfl, rfl, d, fs, .str x, rfl, hd, el, q _ _ _ (Stp.refl _) hh (.str x)⟩
    | _ => exact q.elim
theorem ds_tryCmp {m : Str} {j : Nat} {p6 p7 : Pos} (T : ExC X.prog X.w X.K X.mg X.base cls y) (hN : X.N.Nodup)
    (hb : ∀ (W : WX) (pn : List (Addr × Obj)) (xe : Value → Shared → Prop), Takes (X.tr pn xe) W → DSs (X.tr pn xe) W body fb)
    (hi : X.N[i]? = some n := by rfl) (hln : X.env.kindOf n = some .local := by rfl) (hs : X.stack = X.env :: X.outer := by rfl) (hf : X.env.frame = some X.env.locals := by rfl) (hg : Gl X (Str.ofString cls) := by rfl) (hdb : ((Str.ofString cls) == ("__debug__" : Str)) = false := by decide)
    (hv : Vis X.env.scope n := by first | exact Or.inl rfl | exact Or.inr (Or.inl rfl) | exact Or.inr (Or.inr rfl)) (hd : (n == ("__debug__" : Str)) = false := by decide) (hcd : (n == ("__classdict__" : Str)) = false := by decide) :
    DS X W0 (.Try body [.ExceptHandler (some (.Name (Str.ofString cls) np)) (some n) [.Return (some (.Compare (.Attribute (.Name n p3) y p4) [.Eq] [.Constant (.str m) j p6] p7)) p5] pos'] [] [] pos) (sTry cls i fb (gCmp y m)) := by
  obtain ⟨C, fI, fd, hm, oe, ic, ti, F1, hbi, hex, hxf, hno⟩ := id T.ex
  refine ds_try T hN hi hln hs hf hg hdb hb (fun a c d => tSeq (tRet (tOp rEq (tXf a c d C y (tVar i)) (tC (.str m)))) tNext) (fun a oe c d pn hz hf => pss_cons (ps_ret (pe_cmpR op_eq (pe_xf hxf hno hz hf (pe_var hi hv hd hcd)) pe_str rfl)) pss_nil) fun a d C' fs S σ c Q m1 hh hl na hd q => ?_
  have eC : C' = C := by
    rw [hm] at m1
    cases m1
    rfl
  subst eC
  unfold gCmp at q
  cases el : fs.lookup y with
  | none => rw [el] at q; exact q.elim
  | some v =>
    rw [el] at q
    cases v with
    | str x =>
      have q2 : Q.rt (.bl (decide (V.str x = V.str m))) c.H := by
        have e : decide (V.str x = V.str m) = decide (x = m) := by
          by_cases h : x = m
          · subst h
            simp
          · rw [decide_eq_false h, decide_eq_false fun z => h (by cases z; rfl)]
        rw [e]
        exact q _ _ _ (Stp.refl _) hh (.bl _)
      exact ⟨.ref a, set_at hl, rfl, rfl, d, fs, .str x, rfl, hd, el, rfl, q2⟩
    | _ => exact q.elim
end
end FW

/-! FwEx3: the head's facts about own exceptions. -/
namespace FW
open PySem PySem.Spec L2
open PyProof.Rows hiding St
abbrev FnE : Type := Option (Str × Str × Arguments × FuncBody × Scope × Addr × List Str × Addr)
structure ExD where
  cls : String
  y : Str
  m : Str
  qual : Str
  params : Arguments
  body : List Stmt
  scope : Scope
def ExD.C (K : PySem.W.Frag) (d : ExD) : Addr := He.ga K (Str.ofString d.cls)
def ExD.f (K : PySem.W.Frag) (d : ExD) : Addr := He.ma K (d.C K) "__init__"
def fnE (K : PySem.W.Frag) (d : ExD) : FnE := match K.lookup (d.f K) with
  | some ⟨_, _, .func fd, _⟩ => some (fd.name, fd.qualname, fd.params, fd.body, fd.scope, fd.globals, fd.closure.map (·.1), fd.builtins)
  | _ => none
def ExD.val (d : ExD) : FnE := some ("__init__", d.qual, d.params, .stmts d.body, d.scope, mainGlobals, ["__class__"], builtinsNs)
/-- the class, as OexC wants it -/
def oeB (K : PySem.W.Frag) (C : Addr) : Bool := match K.lookup C with
  | some ⟨.type c, _, .cls cd, sl⟩ => (match cd.mro, sl.toList with
    | .ref C' :: bm, [_, _, _, _, some (.builtin n), _] => decide (c = "type") && decide (C' = C) && (!cd.hasDel && (cd.hasDict && decide (n = "ValueError.__new__"))) && HandSPX.refsVE bm
    | _, _ => false)
  | _ => false
theorem oeB_ok {K : PySem.W.Frag} {C : Addr} (h : oeB K C = true) : ∃ nm q N bs bm sn sub ab col dd k0 k1 k2 k3 k5, K.lookup C = some (excClassObj nm q C N bs bm true sn sub ab col dd k0 k1 k2 k3 k5 "ValueError.__new__") ∧ HandSPX.refsVE bm = true := by
  unfold oeB at h
  split at h
  · rename_i c dd cd sl e
    split at h
    · rename_i C' bm k0 k1 k2 k3 n k5 e1 e2
      simp only [Bool.and_eq_true, decide_eq_true_eq, Bool.not_eq_true'] at h
      obtain ⟨⟨⟨rfl, rfl⟩, h1, h2, rfl⟩, h3⟩ := h
      obtain ⟨nm, bs, mro, ns, qn, hd, sn, sub, ab, col, del⟩ := cd
      dsimp only at e1 h1 h2
      subst e1 h1 h2
      have hsl : sl = #[k0, k1, k2, k3, some (.builtin "ValueError.__new__"), k5] := by
        obtain ⟨l⟩ := sl
        simp only at e2
        rw [e2]
      subst hsl
      exact ⟨_, _, _, _, bm, _, _, _, _, _, _, _, _, _, _, e, h3⟩
    · cases h
  · cases h
/-- the def's cell and its code's file -/
def fileB (file : Str) : Option Value → Bool
  | some (.str f _) => file == f
  | _ => false
theorem fileB_ok {file : Str} {o : Option Value} (h : fileB file o = true) : ∃ f t, o = some (.str f t) ∧ (file == f) = true := by
  unfold fileB at h
  split at h
  · exact ⟨_, _, rfl, h⟩
  · cases h
def cellB (file : Str) (K : PySem.W.Frag) (d : ExD) : Bool := match K.lookup (d.f K) with
  | some ⟨_, _, .func fd, _⟩ => (match fd.closure, fd.code, fd.defaults with
    | [(_, cc)], .ref cda, .none => (match K.lookup cc, K.lookup cda with
      | some ⟨_, _, .cell (some (.ref D)), _⟩, some ⟨_, _, .fields vs, _⟩ => decide (D = d.C K) && (PySem.W.codeIn K (.ref cda) d.qual && fileB file vs[2]?)
      | _, _ => false)
    | _, _, _ => false)
  | _ => false
def excB (file : Str) (d : ExD) (K : PySem.W.Frag) : Bool :=
  oeB K (d.C K) && (cellB file K d && (decide (PySem.W.nsIn K mainGlobals (Str.ofString d.cls) = some (some (.ref (d.C K)))) && (decide (PySem.W.findIn K (.ref (d.C K)) "__setattr__" = some (some (.builtin "object.__setattr__"))) && (decide (PySem.W.subIn K (.ref (d.C K)) (.type "BaseException") = some true) &&
  (decide (PySem.W.typeIn K (.ref (d.C K)) = some (.type "type")) && (PySem.W.keepIn K (.ref (d.C K)) && (decide (PySem.W.findIn K (.ref (d.C K)) "__init__" = some (some (.ref (d.f K)))) && (decide (PySem.W.typeIn K (.ref (d.f K)) = some (.type "function")) &&
  (decide (PySem.W.findIn K (.ref (d.C K)) d.y = some none) && (decide (PySem.W.ks_superIn K (d.C K) (d.C K) "__init__" = some (some (.builtin vI))) && (decide (PySem.W.nsIn K mainGlobals "super" = some none) && (decide (PySem.W.nsIn K cStatics "thirdparty.any" = some none) &&
  (decide (PySem.W.subIn K (.ref (d.C K)) (.type "ValueError") = some true) && (decide (PySem.W.mroIn K (d.C K) (.ref (d.C K)) = some true) && (decide (PySem.W.exmOne K (.ref (d.C K)) (.ref (d.C K)) = some true) && xfB K (d.C K))))))))))))))))
/-- what the text alone says of such a class -/
structure ExT (prog : Program) (d : ExD) : Prop where
  bd : ∃ (j : Nat) (p0 p1 p2 p3 p4 p5 p6 p7 p8 p9 p10 p11 : Pos), d.body = exBody d.m d.y j p0 p1 p2 p3 p4 p5 p6 p7 p8 p9 p10 p11 ∧
    ∀ (dV kV doc pm ct cdv : Value) (an : Option Addr) (cc L f : Addr), ExEnv (callEnv (PySem.W.ksFn "__init__" d.qual d.params d.body d.scope dV kV doc pm an cdv ct cc) L f) d.m d.y j p0 p1 p2 p3 p4 p5 p6 p7 p8 p9 p10 p11
  hd : ∃ ar, (d.params.posonlyargs ++ d.params.args).head? = some ar ∧ ar.arg = "self"
  bi : ∀ (kV doc pm cdv ct : Value) (an : Option Addr) (cc : Addr) (us : List Value), us.length = 2 → bindArgs (PySem.W.ksFn "__init__" d.qual d.params d.body d.scope .none kV doc pm an cdv ct cc) ⟨us, []⟩ = pure ([("self" : Str), d.y].zip us)
  top : (prog.main.scope.names.lookup ("super" : Str)).isSome = false
  k1 : d.scope.names.lookup ("super" : Str) = some .globalImplicit
  k2 : d.scope.names.lookup ("__class__" : Str) = some .free
  k3 : d.scope.names.lookup ("self" : Str) = some .local
  k4 : d.scope.names.lookup d.y = some .local
  kk : d.scope.kind = .function
  kco : d.scope.isCoroutine = false
  kge : d.scope.isGenerator = false
  kce : ∀ x ∈ d.scope.names, x.2 ≠ .cell
  yd : (d.y == ("__debug__" : Str)) = false
  ys : d.y ≠ "self"
  yl : d.m.length ≤ 1000
theorem exC_of {prog : Program} {w : World} {K : PySem.W.Frag} {h : Heap} {mg : Str → Option Value} {d : ExD} (T : ExT prog d) (X : K.In h) (G : h.Ns mainGlobals mg) (e : fnE K d = d.val) (b : excB prog.main.file d K = true) : ∀ base, ExC prog w K mg base d.cls d.y := by
  intro base
  unfold excB at b
  simp only [Bool.and_eq_true, decide_eq_true_eq] at b
  obtain ⟨b1, b2, b3, b4, b5, b6, b7, b8, b9, b10, b11, b12, b13, b14, b15, b16, b17⟩ := b
  have oe : OexC K (d.C K) := ⟨oeB_ok b1, b4, b5, b6, b7⟩
  unfold cellB at b2
  unfold fnE at e
  split at b2
  · rename_i oc od fd osl lk
    rw [lk] at e
    have e := Option.some.inj e
    simp only [Prod.mk.injEq] at e
    obtain ⟨e1, e2, e3, e4, e5, e6, e7, e8⟩ := e
    split at b2
    · rename_i n cc cda hcl hcd hdf
      split at b2
      · rename_i cl cld D csl ccl cdd vs ccs lcc lcd
        simp only [Bool.and_eq_true, decide_eq_true_eq] at b2
        obtain ⟨rfl, c2, c3⟩ := b2
        · obtain ⟨file, tf, hvs, c3⟩ := fileB_ok c3
          obtain ⟨name, qualname, params, body, scope, globals, closure, defaults, kwdefaults, doc, pyModule, annotations, code, closureTuple, builtins⟩ := fd
          simp only at e1 e2 e3 e4 e5 e6 e7 e8 hcl hcd hdf
          subst e1 e2 e3 e4 e5 e6 e8 hcl hcd hdf
          have en : n = ("__class__" : Str) := by simpa using e7
          subst en
          obtain ⟨j, p0, p1, p2, p3, p4, p5, p6, p7, p8, p9, p10, p11, hbd, hen⟩ := T.bd
          obtain ⟨ar, har, har2⟩ := T.hd
          have hI : ExI prog K (d.C K) (d.f K) cc (PySem.W.ksFn "__init__" d.qual d.params d.body d.scope .none kwdefaults doc pyModule annotations (.ref cda) closureTuple cc) d.qual d.m d.y d.scope := {
            oe := oe, ic := b8, ti := b9, nof := b10
            fn := ⟨oc, od, d.params, .none, kwdefaults, doc, pyModule, closureTuple, annotations, cda, osl, j, p0, p1, p2, p3, p4, p5, p6, p7, p8, p9, p10, p11, ar, ccl, cdd, vs, ccs, file, tf, by rw [hbd], lk, c2, fun L => hen _ _ _ _ _ _ _ _ _ _, har, har2, lcd, hvs, c3⟩
            cell := ⟨cl, cld, csl, lcc⟩
            sup := b11, nsup := b12, nth := b13, sV := b14, sC := b15, top := T.top, k1 := T.k1, k2 := T.k2, k3 := T.k3, k4 := T.k4, kk := T.kk, kco := T.kco, kge := T.kge, kce := T.kce, yd := T.yd, ys := T.ys, yl := T.yl }
          refine ⟨d.C K, d.f K, _, ?_, oe, b8, b9, ok_exI hI, Binds.all (T.bi _ _ _ _ _ _ _), b16, xfB_ok b17, b10⟩
          exact PySem.W.mg_of X G b3
      · cases b2
    · cases b2
  · cases b2
/-! ### the head's hook -/
abbrev AlY : Type := AlX × List FnE
def obsY (fa : List He.Fa) (fn : List He.DefD) (bs : List (PySem.W.Frag → Bool)) (es : List ExD) (K : PySem.W.Frag) : AlY := (obsX fa fn bs K, es.map fun d => fnE K d)
def obsYG (n : Nat) (fa : List He.Fa) (fn : List He.DefD) (bs : List (PySem.W.Frag → Bool)) (es : List ExD) (g : Addr → Option Obj) : AlY := obsY fa fn bs es (He.frG g (cStatics :: He.asD g n))
def SaysY (fa : List He.Fa) (fn : List He.DefD) (bs : List (PySem.W.Frag → Bool)) (es : List ExD) (K : PySem.W.Frag) : Prop := obsY fa fn bs es K = ((He.valD fn, true), es.map ExD.val)
def hookY (n : Nat) (fa : List He.Fa) (fn : List He.DefD) (bs : List (PySem.W.Frag → Bool)) (es : List ExD) : PySem.W.Hook where
  α := AlY
  obs := fun s => obsYG n fa fn bs es s.heap.get?
  val := fun _ => ((He.valD fn, true), es.map ExD.val)
  says := fun _ h => ∃ K : PySem.W.Frag, K.In h ∧ SaysY fa fn bs es K
  of := fun _ _ e => ⟨_, He.frG_in, e⟩
  keeps := fun _ _ _ ⟨K, hK, c⟩ k => ⟨K, PySem.W.Frag.In.keeps hK k, c⟩
theorem obsYG_eq {n : Nat} {fa : List He.Fa} {fn : List He.DefD} {bs : List (PySem.W.Frag → Bool)} {es : List ExD} {g : Addr → Option Obj} {s : Shared} (h : ∀ a, g a = s.heap.get? a) : obsYG n fa fn bs es g = (hookY n fa fn bs es).obs s := by
  have e : g = s.heap.get? := funext h
  rw [e] <;> rfl
theorem SaysY.x {fa : List He.Fa} {fn : List He.DefD} {bs : List (PySem.W.Frag → Bool)} {es : List ExD} {K : PySem.W.Frag} (c : SaysY fa fn bs es K) : SaysX fa fn bs K := congrArg (fun z : AlY => z.1) c
theorem SaysY.e {fa : List He.Fa} {fn : List He.DefD} {bs : List (PySem.W.Frag → Bool)} {es : List ExD} {K : PySem.W.Frag} (c : SaysY fa fn bs es K) (i : Nat) {d : ExD} (h : es[i]? = some d := by rfl) : fnE K d = d.val := by
  have e : es.map (fun d => fnE K d) = es.map ExD.val := congrArg (fun z : AlY => z.2) c
  have e2 : (es.map fun d => fnE K d)[i]? = (es.map ExD.val)[i]? := by rw [e]
  rw [List.getElem?_map, List.getElem?_map, h] at e2
  exact Option.some.inj e2
end FW

/-! FwT4: the first place of any data in a list. -/
namespace FW
open PySem PySem.Spec L2
open PyProof.Rows hiding St
theorem units65 {k : Nat} {A : Around} (r : Room k A) : A.units + 65 < cLine := by
  have := r.un
  omega
def idxOk (ds : List D) (d : D) : Bool := noDictA ds && (noDict d && (SeqAt.shaped (.list ds) && SeqAt.shaped d))
def idxG (ds : List D) (d : D) : Option D := if idxOk ds d then (ds.findIdx? fun z => PyData.eqv z d).map fun j => .int (j : Nat) else none
section
variable {X : Cx} {W : WX} {pos p apos : Pos} {x : Str} {o k : Expr} {fo fk : EM D}
theorem idxG_rd {c : Cfg} {a : Addr} {ys : List V} {ds : List D} {y : V} {kd r : D} {Q : L2.VK} (hs : SqL X.K c.H a ys) (rs : RpA X.K c.Z ys ds) (ry : Rp X.K c.Z y kd) (zh : Same c.Z c.H) (e : idxG ds kd = some r) (q : ∀ v, Rp X.K c.Z v r → Q v c.H) : rIndexD X.K (.ref a) [y] c.H Q := by
  unfold idxG at e
  split at e
  · rename_i hk
    unfold idxOk at hk
    simp only [Bool.and_eq_true] at hk
    obtain ⟨h1, h2, h3, h4⟩ := hk
    obtain ⟨j, e3, e4⟩ := Option.map_eq_some_iff.mp e
    subst e4
    obtain ⟨hj, g1, g2⟩ := List.findIdx?_eq_some_iff_getElem.mp e3
    refine ⟨a, y, kd, ds, j, ds[j], rfl, rfl, .lst hs ((rs.mono zh).dp h1), (ry.mono zh).dp h2, h3, h4, List.getElem?_eq_getElem hj, g1, fun m z' hm hz => ?_, q _ (.int _)⟩
    rw [List.getElem?_eq_getElem (by omega)] at hz
    cases hz
    have := g2 m hm
    simpa using this
  · cases e
def eIdxG (fo fk : EM D) : EM D := eBind (eBind fo fun (d : D) => match d with | PyData.list ds => eRet (PyData.list ds) | _ => fun _ => .bad) fun d => eBind fk fun k => eOpt (match d with | PyData.list ds => idxG ds k | _ => none)
theorem de_indexG (hu : X.A.units + 65 < cLine) (ho : DE X W o fo) (hk : DE X W k fk)
    (hbase : attributeBase o "index" X.env (eval o X.env) = eval o X.env := by rfl)
    (hfew : ((backTo pos (starEach [k] X.env)).all (fun x => !x.1) && (backToKw pos (keywordEach [] X.env)).all (fun x => x.1.isSome)
      && decide ([k].length + ([] : List Keyword).length + (if ([] : List Keyword).isEmpty then 0 else 1) < 30)) = true := by rfl)
    (hline : (apos.endLine == pos.line) = true := by rfl) (hs : starEach [k] X.env = (false, eval k X.env) :: starEach [] X.env := by rfl) (hplain : (backTo pos (starEach [] X.env)).any (·.1) = false := by rfl) :
    DE X W (.Call (.Attribute o "index" apos) [k] [] pos) (eIdxG fo fk) := by
  refine PE.wk (pe_bm PySem.F.plainAttrs_list PySem.F.slot_list_index PySem.F.type_list_index (mt_indexD hu) ho (pa_cons hk pa_nil hs) (hbase := hbase) (hfew := hfew) (hline := hline) (hs := hs) (hplain := hplain)) fun σ H Q q => ?_
  obtain ⟨S, Z, F, h, q⟩ := q
  refine ⟨S, Z, F, h, (Go.bind (Go.bind q)).mono fun d S1 c1 s1 h1 q1 v rv => ?_⟩
  cases d with
  | list ds =>
    have q2 := q1 c1 (Stp.refl _) h1
    obtain ⟨a, ys, rfl, z1, r1⟩ := rv.lstI
    refine ⟨.inl ⟨rfl, ys, SqL.of (h1.zh _ _ z1)⟩, S1, c1.Z, c1.F, h1, (Go.bind q2).mono fun kd S2 c2 s2 h2 q3 y ry => ?_⟩
    obtain ⟨r, e, k⟩ := Go.opt q3
    exact idxG_rd (SqL.of (h2.zh _ _ (s2.z _ _ z1))) (r1.mono s2.z) ry h2.zh e fun v rv => k c2 (Stp.refl _) h2 v rv
  | _ => exact q1.elim
end
/-! plain reasoning -/
theorem X_idxG {fo fk : EM D} {S : List Slot} {PD : D → List Slot → Prop} : EpK (eIdxG fo fk) S PD = EpK fo S fun d S1 => LsK d fun ds => EpK fk S1 fun k S2 => OpK (idxG ds k) fun r => PD r S2 := by
  simp only [← Ep_K, ← Wp_K]
  unfold eIdxG
  rw [Ep_bind, Ep_bind]
  congr 1
  funext d S1
  cases d with
  | list ds =>
    rw [LsK_l, Ep_ret]
    show Ep (eBind fk fun k => eOpt (idxG ds k)) S1 PD = _
    rw [Ep_bind]
    congr 1
    funext k S2
    exact Ep_opt _
  | _ => simp [Ep_bad, LsK]
end FW

/-! FwT5: one of two readings, by what stands at a place. -/
namespace FW
open PySem PySem.Spec L2
open PyProof.Rows hiding St
def eAlt (i : Nat) (f1 f2 : EM D) : EM D := fun S => match S[i]? with
  | some (.dat _) => f1 S
  | _ => f2 S
section
variable {X : Cx} {W : WX} {e : Expr} {f1 f2 : EM D}
theorem de_alt (i : Nat) (h1 : DE X W e f1) (h2 : DE X W e f2) : DE X W e (eAlt i f1 f2) := by
  refine ⟨fun pins s σ H Q I h => ?_⟩
  obtain ⟨S, Z, F, hh, q⟩ := h
  unfold eAlt at q
  cases es : S[i]? with
  | none =>
    rw [es] at q
    exact h2.run pins s σ H Q I ⟨S, Z, F, hh, q⟩
  | some sl =>
    rw [es] at q
    cases sl with
    | dat d => exact h1.run pins s σ H Q I ⟨S, Z, F, hh, q⟩
    | _ => exact h2.run pins s σ H Q I ⟨S, Z, F, hh, q⟩
end
def AltK (o : Option Slot) (X Y : Prop) : PropOf2 X Y := match o with
  | some (.dat _) => X
  | _ => Y
theorem AltK_dat {d : D} {X Y : Prop} : AltK (some (.dat d)) X Y = X := rfl
theorem AltK_own {ds : List D} {X Y : Prop} : AltK (some (.own ds)) X Y = Y := rfl
theorem AltK_dic {t : Bool} {es : List (D × D)} {X Y : Prop} : AltK (some (.dic t es)) X Y = Y := rfl
theorem X_alt {i : Nat} {f1 f2 : EM D} {S : List Slot} {PD : D → List Slot → Prop} : EpK (eAlt i f1 f2) S PD = AltK (S[i]?) (EpK f1 S PD) (EpK f2 S PD) := by
  simp only [← Ep_K, ← Wp_K]
  unfold Ep eAlt
  cases S[i]? with
  | none => rfl
  | some sl => cases sl <;> rfl
end FW

/-! FwT6: dicts that are the same, compared. -/
namespace FW
open PySem PySem.Spec L2
open PyProof.Rows hiding St
def sameF : D → D → Bool
  | .none, .none => true
  | .bool x, .bool y => decide (x = y)
  | .int i, .int j => decide (i = j)
  | .str x, .str y => decide (x = y)
  | _, _ => false
def sameEs : List (D × D) → List (D × D) → Bool
  | [], [] => true
  | p :: es, q :: fs => sameK1 p.1 q.1 && sameF p.2 q.2 && es.all (fun r => !sameK1 r.1 p.1) && sameEs es fs
  | _, _ => false
def dicSame (a b : D) : Bool := match dicOf a, dicOf b with
  | some (false, es), some (false, fs) => sameEs es fs
  | _, _ => false
/-- != of dicts that are the same, or of what has no dict -/
def neX (a b : D) : Option D := if dicSame a b then some (.bool false) else neD a b
theorem sameF_rp {K : PySem.W.Frag} {Z : Hp} {v u : V} {d e : D} (h : sameF d e = true) (r : Rp K Z v d) (r' : Rp K Z u e) : v = u ∧ flatB v = true := by
  unfold sameF at h
  split at h
  · cases r; cases r'; exact ⟨rfl, rfl⟩
  · cases r; cases r'; exact ⟨by rw [of_decide_eq_true h], rfl⟩
  · cases r; cases r'; exact ⟨by rw [of_decide_eq_true h], rfl⟩
  · cases r; cases r'; exact ⟨by rw [of_decide_eq_true h], rfl⟩
  · cases h
theorem sameEs_rp {K : PySem.W.Frag} {Z : Hp} : ∀ {ks ls : List Key} {vs us : List V} {ds es : List D}, ks.length = ds.length → ls.length = es.length → RpA K Z vs ds → RpA K Z us es →
    sameEs ((ks.map kD).zip ds) ((ls.map kD).zip es) = true → ks.zip vs = ls.zip us ∧ (∀ p ∈ ks.zip vs, flatB p.2 = true) ∧ (ks.zip vs).Pairwise (fun p q => q.1 ≠ p.1)
  | [], [], vs, us, ds, es, h1, h2, r1, r2, h => ⟨rfl, (fun _ h => nomatch h), List.Pairwise.nil⟩
  | [], l :: ls, vs, us, ds, es, h1, h2, r1, r2, h => by
    cases es with
    | nil => simp at h2
    | cons e es => simp [sameEs] at h
  | k :: ks, ls, vs, us, ds, es, h1, h2, r1, r2, h => by
    cases ds with
    | nil => simp at h1
    | cons d ds =>
      cases ls with
      | nil => simp [sameEs] at h
      | cons l ls =>
        cases es with
        | nil => simp at h2
        | cons e es =>
          cases r1 with
          | cons a1 b1 =>
            cases r2 with
            | cons a2 b2 =>
              rename_i v vs u us
              simp only [List.map_cons, List.zip_cons_cons, sameEs, Bool.and_eq_true] at h
              obtain ⟨⟨⟨hk, hv⟩, hn⟩, ht⟩ := h
              obtain ⟨i1, i2, i3⟩ := sameEs_rp (by simpa using h1) (by simpa using h2) b1 b2 ht
              obtain ⟨e1, f1⟩ := sameF_rp hv a1 a2
              rw [sameK1_kD, decide_eq_true_eq] at hk
              subst hk
              subst e1
              refine ⟨by rw [List.zip_cons_cons, List.zip_cons_cons, i1], fun p hp => ?_, ?_⟩
              · rw [List.zip_cons_cons] at hp
                rcases List.mem_cons.mp hp with rfl | hp
                · exact f1
                · exact i2 p hp
              · rw [List.zip_cons_cons]
                refine List.Pairwise.cons (fun p hp => ?_) i3
                have hm : p.1 ∈ ks := (List.of_mem_zip hp).1
                obtain ⟨j, hj, ej⟩ := List.getElem_of_mem hm
                have hl : ks.length = ds.length := by simpa using h1
                have : (kD p.1, ds[j]'(by omega)) ∈ (ks.map kD).zip ds := by
                  have hj2 : j < ((ks.map kD).zip ds).length := by simp; omega
                  have e : ((ks.map kD).zip ds)[j] = (kD p.1, ds[j]'(by omega)) := by simp [ej]
                  rw [← e]
                  exact List.getElem_mem hj2
                have h3 := List.all_eq_true.mp hn _ this
                rw [sameK1_kD] at h3
                simpa using h3
theorem find_nd {kvs : List (Key × V)} (h : kvs.Pairwise (fun p q => q.1 ≠ p.1)) {p : Key × V} (hp : p ∈ kvs) : valV kvs p.1 = some p.2 := by
  unfold valV
  induction kvs with
  | nil => cases hp
  | cons q r ih =>
    obtain ⟨h1, h2⟩ := List.pairwise_cons.mp h
    rcases List.mem_cons.mp hp with rfl | hp
    · simp [List.find?_cons]
    · have := h1 p hp
      rw [List.find?_cons, decide_eq_false (fun e => this e.symm)]
      exact ih h2 hp
section
variable {X : Cx} {W : WX}
def rNeDX : R2 := fun x y H Q => ∃ a b ks ls, x = .ref a ∧ y = .ref b ∧ Rd H a (.dK ks) ∧ Rd H b (.dK ls) ∧ ks.length = ls.length ∧ (∀ p ∈ ks, valV ls p.1 = some p.2 ∧ flatB p.2 = true) ∧ Q (.bl false) H
theorem rd_obj {P : Program} {w : World} {H : Hp} {h : Heap} {a : Addr} {u : HO} (k : ∀ b o, H b = some o → ObjOk P w H h b o) (r : Rd H a u) : ObjOk P w H h a u := by
  rcases r with e | ⟨o, e⟩
  · exact k _ _ e
  · exact (show h.get? a = some o ∧ ObjOk P w H h a u from k _ _ e).2
theorem op_neDX (hu : X.A.units < cLine) : OpR X (compareOp .NotEq) rNeDX := by
  intro pins s σ H x y v u Q I rx ry h
  obtain ⟨a, b, ks, ls, rfl, rfl, ea, eb, hlen, hp, q⟩ := h
  obtain rfl : v = Value.ref a := rx
  obtain rfl : u = Value.ref b := ry
  obtain ⟨_, ya, va, ra, da⟩ := (show ObjOk X.prog X.w H s.heap a (.dK ks) from rd_obj I.hok ea)
  obtain ⟨_, yb, vb, rb, db⟩ := (show ObjOk X.prog X.w H s.heap b (.dK ls) from rd_obj I.hok eb)
  have hl : va.length = vb.length := by rw [← ra.length, ← rb.length]; exact hlen
  exact PySem.W.keq_ne (knd := mixKind X.prog X.w) (r := true) ya yb da db hu (fun _ => hits_all rb ra hp) (fin_bl I q (by simp [hl]))
theorem od_neX (hu : X.A.units + 64 < cLine) : OpD X W (compareOp .NotEq) neX := by
  obtain ⟨r, h1, h2⟩ := od_ne (X := X) (W := W) hu
  refine ⟨_, (op_neDX (X := X) (by omega)).or h1, fun x y a b d S σ c Q e hh ra rb q => ?_⟩
  unfold neX at e
  split at e
  · rename_i hs
    cases e
    unfold dicSame at hs
    split at hs
    · rename_i es fs e1 e2
      obtain ⟨p, u, rfl, hr, ks, vs, ds, o1, o2, o3, o4⟩ := ra.dicI hh.zh e1
      obtain ⟨p', u', rfl, hr', ks', vs', ds', o1', o2', o3', o4'⟩ := rb.dicI hh.zh e2
      cases o1
      cases o1'
      subst o4
      subst o4'
      obtain ⟨i1, i2, i3⟩ := sameEs_rp o2 o2' o3 o3' hs
      refine .inl ⟨p, p', _, _, rfl, rfl, hr, hr', by rw [i1], fun kv hkv => ⟨?_, i2 kv hkv⟩, q c _ (Stp.refl _) hh (.bl _)⟩
      rw [← i1]
      exact find_nd i3 hkv
    · cases hs
  · exact .inr (h2 x y a b d S σ c Q e hh ra rb q)
end
end FW

/-! FwT7: a comprehension over a list in a slot of its own, which stays there. -/
namespace FW
open PySem PySem.Spec L2
open PyProof.Rows hiding St
section
variable {X : Cx} {W : WX}
def compO (own : List Nat) (i : Nat) (g : Tg) (t : EM Bool) (e : EM D) : Nat → Nat → EM (List D)
  | 0, _, _ => .bad
  | n + 1, k, S => match S[i]? with
    | some (.own ds) => match ds[k]? with
      | none => .ok [] S
      | some d => match g d S with
        | none => .bad
        | some S1 => match t S1 with
          | .ok true S2 => match e S2 with
            | .ok y S3 => match compO own i g t e n (k + 1) (wipeS own S3) with
              | .ok ys S4 => .ok (y :: ys) S4
              | _ => .bad
            | _ => .bad
          | .ok false S2 => compO own i g t e n (k + 1) (wipeS own S2)
          | _ => .bad
    | _ => .bad
def eCompO (own : List Nat) (i : Nat) (g : Tg) (t : EM Bool) (e : EM D) : EM (List D) := fun S => match S[i]? with
  | some (.own ds) => if (plainAt own S && small (ds.length + 1)) && !own.contains i then
      match compO own i g t e (ds.length + 1) 0 (wipeS own S) with
      | .ok ys S' => .ok ys (restS own S S')
      | _ => .bad
    else .bad
  | _ => .bad
theorem comp_rdO {own : List Nat} {is : List Nat} {i : Nat} {g : Tg} {t : EM Bool} {e : EM D} {σ : Sg} {H : Hp} {Q : L2.VK} (hsub : ∀ i ∈ is, i ∈ own) (q : tF (gx X W) (eCompO own i g t e) σ H Q) :
    tLc (iList X.K (tVar i)) (tG (gx X W) is g) (tB' (gx X W) t) (tD (gx X W) e) own σ H Q := by
  obtain ⟨S1, Z, F, h1, q1⟩ := q
  unfold eCompO at q1
  cases eS : S1[i]? with
  | none => simp only [eS] at q1; exact q1.elim
  | some s =>
    cases s with
    | own ds =>
      simp only [eS] at q1
      obtain ⟨p, vs0, ep, eH, _, _⟩ := h1.ownAt eS
      refine ⟨.ref p, ep, p, rfl, ⟨vs0, SqL.of eH⟩, fun A hA => ?_⟩
      by_cases hb : ((plainAt own S1 && small (ds.length + 1)) && !own.contains i) = true
      · rw [if_pos hb] at q1
        rw [Bool.and_eq_true, Bool.and_eq_true] at hb
        obtain ⟨hb, hni⟩ := hb
        have hni : i ∉ own := by simpa using hni
        obtain ⟨F0, sub0, h0⟩ := h1.wipe own
        have hsz : ds.length + 1 ≤ sizeLine := of_decide_eq_true hb.2
        have epw : (L2.wipe σ own)[i]? = some (some (.ref p)) := (wipe_get hni).trans ep
        cases eC : compO own i g t e (ds.length + 1) 0 (wipeS own S1) with
        | bad => simp only [eC] at q1; exact q1.elim
        | ex x S2 => simp only [eC] at q1; exact q1.elim
        | ok ys Sz =>
          simp only [eC] at q1
          refine ⟨fun k n H' => k + n = ds.length + 1 ∧ ∃ S' c' acc rest, c'.H = H' ∧ Holds X.K S' (L2.wipe σ own) c' ∧ Mk1 X.K ⟨Z, H, F⟩ c' A acc ∧ acc.length ≤ k ∧ compO own i g t e n k S' = .ok rest Sz ∧ acc ++ rest = ys, ⟨ds.length + 1, ?_⟩, fun k n H' w => ?_⟩
          · have hn0 : (⟨Z, H, F0⟩ : Cfg).H A = none := hA
            obtain ⟨s2, h2⟩ := h0.tmpS (o := .lst []) hn0
            refine ⟨by simp, wipeS own S1, (⟨Z, H, F0⟩ : Cfg).tmp A (.lst []), [], ys, rfl, h2, ⟨(Stp.sub sub0).tmpU hA, hA, ⟨[], upd_same, .nil⟩, h1.nf hA, fun mm => h1.nF hA (sub0 A mm)⟩, by simp, eC, rfl⟩
          · obtain ⟨ek, S', c', acc, rest, eH', h', mk, la, ec, ey⟩ := w
            subst eH'
            cases n with
            | zero => unfold compO at ec; cases ec
            | succ n =>
              unfold compO at ec
              cases eS' : S'[i]? with
              | none => simp only [eS'] at ec; cases ec
              | some s' =>
                cases s' with
                | own ds' =>
                  simp only [eS'] at ec
                  obtain ⟨p', vs', ep', eH', r', _⟩ := h'.ownAt eS'
                  rw [epw] at ep'
                  cases ep'
                  have hq : SqL X.K c'.H p vs' := SqL.of eH'
                  cases ed : ds'[k]? with
                  | some d =>
                    simp only [ed] at ec
                    obtain ⟨v, ev, rv⟩ := r'.get ed
                    refine .inr ⟨⟨vs', v, hq, ev⟩, fun H2 => ∃ S2 c2 acc2 rest2, c2.H = H2 ∧ Holds X.K S2 (L2.wipe σ own) c2 ∧ Mk1 X.K ⟨Z, H, F⟩ c2 A acc2 ∧ acc2.length ≤ k + 1 ∧ compO own i g t e n (k + 1) S2 = .ok rest2 Sz ∧ acc2 ++ rest2 = ys, fun H2 m => ?_, fun x H2 y => ?_⟩
                    · obtain ⟨S2, c2, acc2, rest2, n1, n2, n3, n4, n5, n6⟩ := m
                      exact ⟨n, by omega, by omega, S2, c2, acc2, rest2, n1, n2, n3, n4, n5, n6⟩
                    · obtain ⟨e1, y⟩ := y
                      subst e1
                      have ev2 := Option.some.inj ((y vs' hq).symm.trans ev)
                      subst ev2
                      cases eg : g d S' with
                      | none => simp only [eg] at ec; cases ec
                      | some S3 =>
                        simp only [eg] at ec
                        refine ⟨S', c'.Z, c'.F, d, S3, h', rv, eg, fun σ3 c3 st3 h3 on => ?_⟩
                        have wσ : L2.wipe σ3 own = L2.wipe σ own := (on own hsub).trans (wipe_wipe own σ)
                        refine ⟨wσ, S3, c3.Z, c3.F, h3, ?_⟩
                        have m3 := mk.step st3
                        cases et : t S3 with
                        | bad => simp only [et] at ec; cases ec
                        | ex x S4 => simp only [et] at ec; cases ec
                        | ok b S4 =>
                          intro c4 st4 h4
                          have m4 := m3.step st4
                          cases b with
                          | false =>
                            simp only [et] at ec
                            refine iteF ?_
                            obtain ⟨F5, sub5, h5⟩ := h4.wipe own
                            rw [wσ] at h5
                            exact ⟨_, ⟨c4.Z, c4.H, F5⟩, acc, rest, rfl, h5, m4.sub sub5, by omega, ec, ey⟩
                          | true =>
                            simp only [et] at ec
                            refine iteT ?_
                            refine ⟨S4, c4.Z, c4.F, h4, ?_⟩
                            cases ee : e S4 with
                            | bad => simp only [ee] at ec; cases ec
                            | ex x S5 => simp only [ee] at ec; cases ec
                            | ok yv S5 =>
                              simp only [ee] at ec
                              intro c5 st5 h5 v rv
                              have m5 := m4.step st5
                              obtain ⟨vs, e5, r5⟩ := m5.at'
                              cases er : compO own i g t e n (k + 1) (wipeS own S5) with
                              | bad => simp only [er] at ec; cases ec
                              | ex x S6 => simp only [er] at ec; cases ec
                              | ok ys2 S6 =>
                                simp only [er] at ec
                                cases ec
                                obtain ⟨F6, sub6, h6⟩ := h5.wipe own
                                rw [wσ] at h6
                                have m6 := m5.sub sub6
                                refine ⟨vs, e5, by have := r5.length; omega, _, (⟨c5.Z, c5.H, F6⟩ : Cfg).tmp A (.lst (vs ++ [v])), acc ++ [yv], ys2, rfl, h6.tmp m6.nf m6.zn fun _ _ => ⟨_, rfl⟩, m6.push e5 r5 rv, by simp; omega, er, by simpa using ey⟩
                  | none =>
                    simp only [ed] at ec
                    cases ec
                    rw [List.append_nil] at ey
                    subst ey
                    have hk : vs'.length ≤ k := by
                      have := List.getElem?_eq_none_iff.mp ed
                      rw [r'.length]
                      exact this
                    refine .inl ⟨⟨vs', hq, hk⟩, ?_⟩
                    obtain ⟨vs, ev, rv⟩ := mk.at'
                    have hne : ∀ b, b ≠ A → (fun b => if b = A then none else c'.H b : Hp) b = c'.H b := fun b hb => if_neg hb
                    have hcA : (fun b => if b = A then none else c'.H b : Hp) A = none := if_pos rfl
                    have hh : Holds X.K Sz (L2.wipe σ own) ⟨c'.Z, fun b => if b = A then none else c'.H b, c'.F⟩ := by
                      refine ⟨HoldsL.tr (c := c') (c' := ⟨c'.Z, fun b => if b = A then none else c'.H b, c'.F⟩) (Same.refl c'.Z) h'.l fun a ha => hne a fun z => mk.nf (z ▸ ha), h'.nd, h'.zf, fun b o q => ?_⟩
                      have nb : b ≠ A := by
                        rintro rfl
                        have q' : c'.Z b = some o := q
                        rw [mk.zn] at q'
                        cases q'
                      exact (hne b nb).trans (h'.zh b o q)
                    obtain ⟨F7, sub7, h7⟩ := Holds.back h1 hb.1 hh mk.st.z
                    have st7 : Stp ⟨Z, H, F⟩ ⟨c'.Z, fun b => if b = A then none else c'.H b, F7⟩ := by
                      refine ⟨mk.st.z, fun b o q hn => ?_, fun b o q => ?_, mk.st.n, fun b hm => mk.st.f b (sub7 b hm)⟩
                      · have nb : b ≠ A := by
                          rintro rfl
                          rw [mk.hn] at q
                          cases q
                        exact (hne b nb).trans (mk.st.k b o q hn)
                      · have nb : b ≠ A := by
                          rintro rfl
                          rw [mk.hn] at q
                          cases q
                        obtain ⟨o', q'⟩ := mk.st.t b o q
                        exact ⟨o', (hne b nb).trans q'⟩
                    have fin := q1 _ st7 h7 A vs hcA rv
                    have eq : upd (fun b => if b = A then none else c'.H b) A (.lst vs) = c'.H := by
                      funext b
                      by_cases hb' : b = A
                      · subst hb'
                        rw [upd_same, ev]
                      · rw [upd_ne hb']
                        exact hne b hb'
                    have fin' : Q (.ref A) (upd (fun b => if b = A then none else c'.H b) A (.lst vs)) := fin
                    rw [eq] at fin'
                    exact fin'
                | _ => simp only [eS'] at ec; cases ec
      · rw [if_neg hb] at q1
        exact q1.elim
    | _ => simp only [eS] at q1; exact q1.elim
theorem df_compO (i : Nat) {x : Str} {xp pos : Pos} {elt tg : Expr} {ifs : List Expr} {scope : Scope} {own : List (Str × Nat)} {is : List Nat} {g : Tg} {t : EM Bool} {e : EM D} (hc : X.calm = true) (hN : X.N.Nodup) (ok : BlkOk X.N X.env.scope scope own)
    (hg : ∀ (s : Shared) (H : Hp) (C : Addr) (cl : List (Str × Addr)) (fp : List Addr), DG (X.blk s H scope (compEnvC scope cl C X.env) fp) W tg is g) (ht : ∀ (s : Shared) (H : Hp) (C : Addr) (cl : List (Str × Addr)) (fp : List Addr), DTs (X.blk s H scope (compEnvC scope cl C X.env) fp) W ifs t)
    (he : ∀ (s : Shared) (H : Hp) (C : Addr) (cl : List (Str × Addr)) (fp : List Addr), DE (X.blk s H scope (compEnvC scope cl C X.env) fp) W elt e) (hsub : ∀ i ∈ is, i ∈ own.map (·.2))
    (hx : X.N[i]? = some x := by rfl) (hv : Vis X.env.scope x := by first | exact Or.inl rfl | exact Or.inr (Or.inl rfl) | exact Or.inr (Or.inr rfl)) (hd : (x == ("__debug__" : Str)) = false := by decide)
    (hcd : (x == ("__classdict__" : Str)) = false := by decide) (hs : ∀ y, foldedSetIterable (.Name x xp) X.env y = pure y := by intro _; rfl) :
    DF X W (.ListComp elt [⟨tg, .Name x xp, ifs, 0⟩] scope pos) (eCompO (own.map (·.2)) i g t e) :=
  PE.wk (pe_lc (g := tG (gx X W) is g) (tt := tB' (gx X W) t) (te := tD (gx X W) e) hc hN (pi_list (pe_var hx hv hd hcd)) ok hg ht he hs) fun σ H Q q => comp_rdO hsub q
end
theorem comp_mapO {α : Type} (enc : α → D) {own : List Nat} {i : Nat} {g : Tg} {t : EM Bool} {e : EM D} (base : List Slot) (xs : List α) (p : α → Bool) (f : α → D) (hb : base[i]? = some (.own (xs.map enc)))
    (h : ∀ x ∈ xs, ∃ S1, g (enc x) base = some S1 ∧ wipeS own S1 = base ∧ Ep t S1 fun b S2 => b = p x ∧ S2 = S1 ∧ (b = true → Ep e S1 fun y S3 => y = f x ∧ S3 = S1)) :
    ∀ n k, k + n = xs.length → compO own i g t e (n + 1) k base = .ok (((xs.drop k).filter p).map f) base
  | 0, k, hk => by
    unfold compO
    have ed : xs[k]? = none := List.getElem?_eq_none_iff.mpr (by omega)
    simp only [hb, List.getElem?_map, ed, Option.map_none]
    rw [List.drop_eq_nil_of_le (by omega)]
    rfl
  | n + 1, k, hk => by
    unfold compO
    have hlt : k < xs.length := by omega
    obtain ⟨x, ed⟩ : ∃ x, xs[k]? = some x := ⟨_, List.getElem?_eq_getElem hlt⟩
    obtain ⟨S1, e1, e3, b, S2, e2, rfl, rfl, e4⟩ := h x (List.mem_of_getElem? ed)
    have ih := comp_mapO enc base xs p f hb h n (k + 1) (by omega)
    have dr : xs.drop k = x :: xs.drop (k + 1) := by
      obtain ⟨h1, h2⟩ := List.getElem?_eq_some_iff.mp ed
      rw [List.drop_eq_getElem_cons h1, h2]
    simp only [hb, List.getElem?_map, ed, Option.map_some, e1, e2]
    rw [dr]
    cases hp : p x with
    | true =>
      obtain ⟨y, S3, e5, rfl, rfl⟩ := e4 hp
      simp only [e5, e3, ih, List.filter_cons_of_pos hp]
      rfl
    | false =>
      simp only [e3, ih]
      rw [List.filter_cons_of_neg (by rw [hp]; simp)]
section
variable {α : Type} {S : List Slot} {PL : List D → List Slot → Prop}
theorem E_selO (enc : α → D) {v i : Nat} {t : EM Bool} {e : EM D} (xs : List α) (p : α → Bool) (f : α → D) (hi : S[i]? = some (.own (xs.map enc))) (hvi : v ≠ i) (hv : v < S.length) (pl : plainAt [v] S = true) (hs : xs.length ≤ 100000)
    (ht : ∀ x ∈ xs, Ep t (S.set v (.dat (enc x))) fun b S3 => b = p x ∧ S3 = S.set v (.dat (enc x))) (he : ∀ x ∈ xs, p x = true → Ep e (S.set v (.dat (enc x))) fun y S3 => y = f x ∧ S3 = S.set v (.dat (enc x))) (q : PL ((xs.filter p).map f) S) : Ep (eCompO [v] i (gN v) t e) S PL := by
  refine ⟨_, S, ?_, q⟩
  unfold eCompO
  have hsm : small ((xs.map enc).length + 1) = true := small_of (by rw [List.length_map]; omega)
  have hc : (![v].contains i) = true := by
    simp
    exact fun e => hvi e.symm
  simp only [hi, pl, hsm, hc, Bool.and_self, if_true]
  have hb : (wipeS [v] S)[i]? = some (.own (xs.map enc)) := by
    rw [wipe1, List.getElem?_set_ne hvi, hi]
  have key := comp_mapO (own := [v]) (i := i) (g := gN v) (t := t) (e := e) enc (wipeS [v] S) xs p f hb (fun x hx => ⟨S.set v (.dat (enc x)), ?_, ?_, ?_⟩) (xs.map enc).length 0 (by rw [List.length_map]; omega)
  · rw [key, wipe1]
    simp only [rest1 hv]
    rfl
  · rw [wipe1]
    unfold gN
    rw [if_pos (by rw [List.length_set]; exact hv), List.set_set]
  · rw [wipe1, wipe1, List.set_set]
  · refine (ht x hx).mono fun b S3 h => ?_
    obtain ⟨rfl, rfl⟩ := h
    exact ⟨rfl, rfl, fun hb => he x hx hb⟩
theorem E_mapO (enc : α → D) {v i : Nat} {e : EM D} (xs : List α) (f : α → D) (hi : S[i]? = some (.own (xs.map enc))) (hvi : v ≠ i) (hv : v < S.length) (pl : plainAt [v] S = true) (hs : xs.length ≤ 100000)
    (he : ∀ x ∈ xs, Ep e (S.set v (.dat (enc x))) fun y S3 => y = f x ∧ S3 = S.set v (.dat (enc x))) (q : PL (xs.map f) S) : Ep (eCompO [v] i (gN v) bYes e) S PL := by
  refine E_selO enc xs (fun _ => true) f hi hvi hv pl hs (fun d _ => ?_) (fun d hd _ => he d hd) ?_
  · rw [Ep_yes]
    exact ⟨rfl, rfl⟩
  · rw [List.filter_eq_self.mpr fun _ _ => rfl]
    exact q
end
end FW

/-! FwK0: the plain rules in two. -/
namespace FW
open PySem PySem.Spec L2
open PyProof.Rows hiding St
def kPre := And.intro @X_alt (And.intro @AltK_dat (And.intro @AltK_own (And.intro @AltK_dic (And.intro @Ep_K (And.intro @Wp_K (And.intro @IteK_t (And.intro @IteK_f (And.intro @OpK_some (And.intro @AndK_t (And.intro @RsK_ok (And.intro @nxtK_nx (And.intro @nxtK_rt (And.intro @nxtK_bk (And.intro @nxtK_ct (And.intro @nxtK_ex (And.intro @VK_dat (And.intro @VK_own (And.intro @VK_dic (And.intro @X_V (And.intro @X_ret (And.intro @X_opt (And.intro @X_bind (And.intro @X_C (And.intro @X_nil (And.intro @X_no (And.intro @X_some (And.intro @X_yes (And.intro @X_cons (And.intro @X_bin (And.intro @X_un (And.intro @X_ix (And.intro @X_B (And.intro @X_BF (And.intro @X_binF (And.intro @X_tup (And.intro @X_lst (And.intro @X_lstF (And.intro @X_bOf (And.intro @X_and (And.intro @X_or (And.intro @X_not (And.intro @BoK_b (And.intro @X_eAnd (And.intro @X_eOr (And.intro @X_eNot (And.intro @X_eIf (And.intro @X_sl (And.intro @X_fz (And.intro @X_chain (And.intro @X_call (And.intro @X_meth (And.intro @X_rng1 (And.intro @X_rng2 (And.intro @X_rng3 (And.intro @X_iA (And.intro @X_lr1 (And.intro @X_lr2 (And.intro @X_kget (And.intro @X_make (And.intro @X_get2 (And.intro @X_get1 (And.intro @X_eDic (And.intro @LsK_l (And.intro @X_idx (And.intro @X_idxG (And.intro @X_VO (And.intro @X_BO (And.intro @X_BFO (And.intro @X_binO (And.intro @X_ixO (And.intro @MuK_own (And.intro @OwK_own (And.intro @X_mut (And.intro @Y_nx (And.intro @Y_pass (And.intro @Y_brk (And.intro @Y_cnt (And.intro @Y_retN (And.intro @Y_seq (And.intro @Y_asg (And.intro @Y_set (And.intro @Y_own (And.intro @Y_dat (And.intro @Y_dic (And.intro @Y_ret (And.intro @Y_expr (And.intro @Y_if (And.intro @Y_par (And.intro @Y_par3 (And.intro @AuK_dat (And.intro @Y_aug (And.intro @Y_for (And.intro @Y_while (And.intro @Y_setIx (And.intro @X_W (And.intro @DrK_d (And.intro @WkK_d (And.intro @RwK_ok (And.intro @X_fzM (And.intro @X_prn (And.intro @X_prc (And.intro @X_disp (And.intro @X_vD (And.intro @X_vO (And.intro @X_vM (And.intro @Y_parK (And.intro @Y_parK3 (And.intro @lt_l0 (And.intro @lt_ls (And.intro @le_l0 (And.intro @le_ls (And.intro @ln_p (And.intro @eq_l0 (And.intro @eq_ls (@sm_l)))))))))))))))))))))))))))))))))))))))))))))))))))))))))))))))))))))))))))))))))))))))))))))))))))))))))))))))))))
def kPost := And.intro @slotAt_eq (And.intro @slotO_own (And.intro @slotO_dic (And.intro @g_N (And.intro @g_two (And.intro @g_three (And.intro @g_T (And.intro @g_L (And.intro @g_nil (And.intro @g_cons (And.intro @Option.bind_some.{0,0} (And.intro @Option.map_some.{0,0} (And.intro @List.getElem?_cons_zero.{0} (And.intro @List.getElem?_cons_succ.{0} (And.intro @List.set_cons_zero.{0} (And.intro @List.set_cons_succ.{0} (And.intro @asB_b (And.intro @asI_i (And.intro @eqD_ii (And.intro @neD_ii (And.intro @ltD_ii (And.intro @leD_ii (And.intro @gtD_ii (And.intro @geD_ii (And.intro @addD_ii (And.intro @subD_ii (And.intro @lenD_l (And.intro @lenD_t (And.intro @List.length_map.{0,0} (And.intro @List.length_range (And.intro @if_true.{1} (And.intro @if_false.{1} (And.intro @decide_true (And.intro @decide_false (And.intro @Bool.not_true (@Bool.not_false)))))))))))))))))))))))))))))))))))
end FW

namespace FW
open PySem PySem.Spec L2
open PyProof.Rows hiding St
def topS (i : Nat) : Stmt := PySem.Challenge.pw_farwords_k12_whole_bounds_and_what_keeps.main.body.getD i (.Pass ⟨0, 0, 0, 0⟩)
section
variable {P : Program} {w : World} {K : PySem.W.Frag} {mg : Str → Option Value} {base : Heap}
/-! ### choose -/
abbrev s_choose : Stmt := topS 4
theorem sc_choose : FnScope ["many", "few", "found", "k"] ["many", "few"] (defScope s_choose) := ⟨rfl, rfl, rfl, by decide +kernel, rfl, by decide +kernel, by decide +kernel⟩
def b_choose : SM :=
  sSeq (sSet 2 (eC (.int 1))) (sSeq (sFor (iR1 (aCons (eV 1) (aNil))) (gN 3) (sSeq (sSet 2 (eBin fdivD (eBin mulD (eV 2) (eBin subD (eV 0) (eV 3))) (eBin addD (eV 3) (eC (.int 1))))) (sNx))) (sSeq (sRet (eIf (bOf (eBin leD (eV 1) (eV 0))) (eV 2) (eC (.int 0)))) (sNx)))
def f_choose : List D → Rs := runF 4 b_choose
theorem ok_choose {f : Addr} {fd : FuncData} (B : Blt mg) (F : Fun K "choose" "choose" s_choose f fd)  : FnOk P w K mg base CX0 1 f fd ["many", "few"] (spD0 K 2 f_choose) := by
  refine ok_D0 (k := 0) (N := ["many", "few", "found", "k"]) F sc_choose fun cdv A outer s H E hr => ?_
  have hu := hr.units
  have nd := sc_choose.nd
  exact (ds_cons (ds_set 2 nd de_int) (ds_cons (ds_for PassesOwn.never rfl (di_range1 (by rfl) B.range (da_cons (de_v 1) da_nil)) (dg_name 3 nd rfl (by first | exact Or.inl rfl | exact Or.inr rfl)) (ds_cons (ds_set 2 nd (de_op od_fdiv (de_op od_mul (de_v 2) (dl_e (de_op od_sub (de_v 0) (dl_e (de_v 3))))) (dl_e (de_op od_add (de_v 3) (dl_e de_int))))) ds_nil)) (ds_cons (ds_ret (de_if (dt_cmp od_le (de_v 1) (dl_e (de_v 0)) (nomark _)) (de_v 2) de_int)) ds_nil)))
/-! ### power -/
abbrev s_power : Stmt := topS 5
theorem sc_power : FnScope ["one", "many", "found", "turn"] ["one", "many"] (defScope s_power) := ⟨rfl, rfl, rfl, by decide +kernel, rfl, by decide +kernel, by decide +kernel⟩
def b_power : SM :=
  sSeq (sSet 2 (eC (.int 1))) (sSeq (sFor (iR1 (aCons (eV 1) (aNil))) (gN 3) (sSeq (sSet 2 (eBin mulD (eV 2) (eV 0))) (sNx))) (sSeq (sRet (eV 2)) (sNx)))
def f_power : List D → Rs := runF 4 b_power
theorem ok_power {f : Addr} {fd : FuncData} (B : Blt mg) (F : Fun K "power" "power" s_power f fd)  : FnOk P w K mg base CX0 1 f fd ["one", "many"] (spD0 K 2 f_power) := by
  refine ok_D0 (k := 0) (N := ["one", "many", "found", "turn"]) F sc_power fun cdv A outer s H E hr => ?_
  have hu := hr.units
  have nd := sc_power.nd
  exact (ds_cons (ds_set 2 nd de_int) (ds_cons (ds_for PassesOwn.never rfl (di_range1 (by rfl) B.range (da_cons (de_v 1) da_nil)) (dg_name 3 nd rfl (by first | exact Or.inl rfl | exact Or.inr rfl)) (ds_cons (ds_set 2 nd (de_op od_mul (de_v 2) (dl_e (de_v 0)))) ds_nil)) (ds_cons (ds_ret (de_v 2)) ds_nil)))
/-! ### ball -/
abbrev s_ball : Stmt := topS 7
theorem sc_ball : FnScope ["long", "size", "number", "k"] ["long", "size", "number"] (defScope s_ball) := ⟨rfl, rfl, rfl, by decide +kernel, rfl, by decide +kernel, by decide +kernel⟩
def b_ball : SM :=
  sSeq (sRet (eB sumD (aCons (eFz (eComp [3] (iR1 (aCons (eBin addD (eV 2) (eC (.int 1))) (aNil))) (gN 3) (bYes) (eBin mulD (eCall 2 (f_choose) (aCons (eV 0) (aCons (eV 3) (aNil)))) (eCall 2 (f_power) (aCons (eBin subD (eV 1) (eC (.int 1))) (aCons (eV 3) (aNil))))))) (aNil)))) (sNx)
def f_ball : List D → Rs := runF 4 b_ball
theorem ok_ball {f : Addr} {fd : FuncData} (B : Blt mg) (F : Fun K "ball" "ball" s_ball f fd) (h_choose : Cal P w K mg base CX0 "choose" ["many", "few"] 1 (spD0 K 2 (f_choose))) (h_power : Cal P w K mg base CX0 "power" ["one", "many"] 1 (spD0 K 2 (f_power))) : FnOk P w K mg base CX0 2 f fd ["long", "size", "number"] (spD0 K 3 f_ball) := by
  refine ok_D0 (k := 1) (N := ["long", "size", "number", "k"]) F sc_ball fun cdv A outer s H E hr => ?_
  have hu := hr.units
  have nd := sc_ball.nd
  exact (ds_cons (ds_ret (de_B (cd_sum rfl) (by rfl) B.sum bt_sum (da_cons (de_f (df_comp (own := [("k", 3)]) rfl nd (di_range1 (by rfl) B.range (da_cons (de_op od_add (de_v 2) (dl_e de_int)) da_nil)) (blkOk_by (by rfl)) (fun _ _ _ _ _ => (dg_name 3 nd rfl (by first | exact Or.inl rfl | exact Or.inr rfl))) (fun _ _ _ _ _ => dts_nil) (fun _ _ _ _ _ => (de_op od_mul (de_fn h_choose (hr.mono (by decide)) (da_cons (de_v 0) (da_cons (de_v 3) da_nil))) (dl_e (de_fn h_power (hr.mono (by decide)) (da_cons (de_op od_sub (de_v 1) (dl_e de_int)) (da_cons (de_v 3) da_nil)))))) (by decide))) da_nil))) ds_nil)
/-! ### by_spheres -/
abbrev s_by_spheres : Stmt := topS 8
theorem sc_by_spheres : FnScope ["long", "size", "least"] ["long", "size", "least"] (defScope s_by_spheres) := ⟨rfl, rfl, rfl, by decide +kernel, rfl, by decide +kernel, by decide +kernel⟩
def b_by_spheres : SM :=
  sSeq (sRet (eBin fdivD (eCall 2 (f_power) (aCons (eV 1) (aCons (eV 0) (aNil)))) (eCall 3 (f_ball) (aCons (eV 0) (aCons (eV 1) (aCons (eBin fdivD (eBin subD (eV 2) (eC (.int 1))) (eC (.int 2))) (aNil))))))) (sNx)
def f_by_spheres : List D → Rs := runF 3 b_by_spheres
theorem ok_by_spheres {f : Addr} {fd : FuncData} (B : Blt mg) (F : Fun K "by_spheres" "by_spheres" s_by_spheres f fd) (h_power : Cal P w K mg base CX0 "power" ["one", "many"] 1 (spD0 K 2 (f_power))) (h_ball : Cal P w K mg base CX0 "ball" ["long", "size", "number"] 2 (spD0 K 3 (f_ball))) : FnOk P w K mg base CX0 3 f fd ["long", "size", "least"] (spD0 K 3 f_by_spheres) := by
  refine ok_D0 (k := 2) (N := ["long", "size", "least"]) F sc_by_spheres fun cdv A outer s H E hr => ?_
  have hu := hr.units
  have nd := sc_by_spheres.nd
  exact (ds_cons (ds_ret (de_op od_fdiv (de_fn h_power (hr.mono (by decide)) (da_cons (de_v 1) (da_cons (de_v 0) da_nil))) (dl_e (de_fn h_ball (hr.mono (by decide)) (da_cons (de_v 0) (da_cons (de_v 1) (da_cons (de_op od_fdiv (de_op od_sub (de_v 2) (dl_e de_int)) (dl_e de_int)) da_nil))))))) ds_nil)
/-! ### by_places -/
abbrev s_by_places : Stmt := topS 9
theorem sc_by_places : FnScope ["long", "size", "least"] ["long", "size", "least"] (defScope s_by_places) := ⟨rfl, rfl, rfl, by decide +kernel, rfl, by decide +kernel, by decide +kernel⟩
def b_by_places : SM :=
  sSeq (sRet (eCall 2 (f_power) (aCons (eV 1) (aCons (eBin addD (eBin subD (eV 0) (eV 2)) (eC (.int 1))) (aNil))))) (sNx)
def f_by_places : List D → Rs := runF 3 b_by_places
theorem ok_by_places {f : Addr} {fd : FuncData} (B : Blt mg) (F : Fun K "by_places" "by_places" s_by_places f fd) (h_power : Cal P w K mg base CX0 "power" ["one", "many"] 1 (spD0 K 2 (f_power))) : FnOk P w K mg base CX0 2 f fd ["long", "size", "least"] (spD0 K 3 f_by_places) := by
  refine ok_D0 (k := 1) (N := ["long", "size", "least"]) F sc_by_places fun cdv A outer s H E hr => ?_
  have hu := hr.units
  have nd := sc_by_places.nd
  exact (ds_cons (ds_ret (de_fn h_power (hr.mono (by decide)) (da_cons (de_v 1) (da_cons (de_op od_add (de_op od_sub (de_v 0) (dl_e (de_v 2))) (dl_e de_int)) da_nil)))) ds_nil)
/-! ### by_sums -/
abbrev s_by_sums : Stmt := topS 10
theorem sc_by_sums : FnScope ["long", "size", "least", "gap"] ["long", "size", "least"] (defScope s_by_sums) := ⟨rfl, rfl, rfl, by decide +kernel, rfl, by decide +kernel, by decide +kernel⟩
def b_by_sums : SM :=
  sSeq (sSet 3 (eBin subD (eBin mulD (eV 1) (eV 2)) (eBin mulD (eBin subD (eV 1) (eC (.int 1))) (eV 0)))) (sSeq (sRet (eIf (bOf (eBin gtD (eV 3) (eC (.int 0)))) (eBin fdivD (eBin mulD (eV 1) (eV 2)) (eV 3)) (eC .none))) (sNx))
def f_by_sums : List D → Rs := runF 4 b_by_sums
theorem ok_by_sums {f : Addr} {fd : FuncData} (B : Blt mg) (F : Fun K "by_sums" "by_sums" s_by_sums f fd)  : FnOk P w K mg base CX0 1 f fd ["long", "size", "least"] (spD0 K 3 f_by_sums) := by
  refine ok_D0 (k := 0) (N := ["long", "size", "least", "gap"]) F sc_by_sums fun cdv A outer s H E hr => ?_
  have hu := hr.units
  have nd := sc_by_sums.nd
  exact (ds_cons (ds_set 3 nd (de_op od_sub (de_op od_mul (de_v 1) (dl_e (de_v 2))) (dl_e (de_op od_mul (de_op od_sub (de_v 1) (dl_e de_int)) (dl_e (de_v 0)))))) (ds_cons (ds_ret (de_if (dt_cmp od_gt (de_v 3) (dl_e de_int) (nomark _)) (de_op od_fdiv (de_op od_mul (de_v 1) (dl_e (de_v 2))) (dl_e (de_v 3))) de_non)) ds_nil))
/-! ### shortest -/
abbrev s_shortest : Stmt := topS 11
theorem sc_shortest : FnScope ["size", "rows", "least", "found", "now", "turn"] ["size", "rows", "least"] (defScope s_shortest) := ⟨rfl, rfl, rfl, by decide +kernel, rfl, by decide +kernel, by decide +kernel⟩
def b_shortest : SM :=
  sSeq (sPar 3 4 (aCons (eC (.int 0)) (aCons (eV 2) (aNil)))) (sSeq (sFor (iR1 (aCons (eV 1) (aNil))) (gN 5) (sSeq (sAug 3 addI (eV 4)) (sSeq (sSet 4 (eBin subD (eC (.int 0)) (eBin fdivD (eBin subD (eC (.int 0)) (eV 4)) (eV 0)))) (sNx)))) (sSeq (sRet (eV 3)) (sNx)))
def f_shortest : List D → Rs := runF 6 b_shortest
theorem ok_shortest {f : Addr} {fd : FuncData} (B : Blt mg) (F : Fun K "shortest" "shortest" s_shortest f fd)  : FnOk P w K mg base CX0 1 f fd ["size", "rows", "least"] (spD0 K 3 f_shortest) := by
  refine ok_D0 (k := 0) (N := ["size", "rows", "least", "found", "now", "turn"]) F sc_shortest fun cdv A outer s H E hr => ?_
  have hu := hr.units
  have nd := sc_shortest.nd
  exact (ds_cons (ds_par 3 4 rfl nd (da_cons de_int (da_cons (de_v 2) da_nil)) (by decide)) (ds_cons (ds_for PassesOwn.never rfl (di_range1 (by rfl) B.range (da_cons (de_v 1) da_nil)) (dg_name 5 nd rfl (by first | exact Or.inl rfl | exact Or.inr rfl)) (ds_cons (ds_aug 3 nd ip_addD (de_v 4)) (ds_cons (ds_set 4 nd (de_op od_sub de_int (dl_e (de_op od_fdiv (de_op od_sub de_int (dl_e (de_v 4))) (dl_e (de_v 0)))))) ds_nil))) (ds_cons (ds_ret (de_v 3)) ds_nil)))
/-! ### surely -/
abbrev s_surely : Stmt := topS 12
theorem sc_surely : FnScope ["long", "size", "least", "inner"] ["long", "size", "least"] (defScope s_surely) := ⟨rfl, rfl, rfl, by decide +kernel, rfl, by decide +kernel, by decide +kernel⟩
def b_surely : SM :=
  sSeq (sSet 3 (eCall 3 (f_ball) (aCons (eV 0) (aCons (eV 1) (aCons (eBin subD (eV 2) (eC (.int 1))) (aNil)))))) (sSeq (sRet (eBin subD (eC (.int 0)) (eBin fdivD (eBin subD (eC (.int 0)) (eCall 2 (f_power) (aCons (eV 1) (aCons (eV 0) (aNil))))) (eV 3)))) (sNx))
def f_surely : List D → Rs := runF 4 b_surely
theorem ok_surely {f : Addr} {fd : FuncData} (B : Blt mg) (F : Fun K "surely" "surely" s_surely f fd) (h_power : Cal P w K mg base CX0 "power" ["one", "many"] 1 (spD0 K 2 (f_power))) (h_ball : Cal P w K mg base CX0 "ball" ["long", "size", "number"] 2 (spD0 K 3 (f_ball))) : FnOk P w K mg base CX0 3 f fd ["long", "size", "least"] (spD0 K 3 f_surely) := by
  refine ok_D0 (k := 2) (N := ["long", "size", "least", "inner"]) F sc_surely fun cdv A outer s H E hr => ?_
  have hu := hr.units
  have nd := sc_surely.nd
  exact (ds_cons (ds_set 3 nd (de_fn h_ball (hr.mono (by decide)) (da_cons (de_v 0) (da_cons (de_v 1) (da_cons (de_op od_sub (de_v 2) (dl_e de_int)) da_nil))))) (ds_cons (ds_ret (de_op od_sub de_int (dl_e (de_op od_fdiv (de_op od_sub de_int (dl_e (de_fn h_power (hr.mono (by decide)) (da_cons (de_v 1) (da_cons (de_v 0) da_nil))))) (dl_e (de_v 3)))))) ds_nil))
/-! ### surely_rows -/
abbrev s_surely_rows : Stmt := topS 13
theorem sc_surely_rows : FnScope ["long", "size", "least", "checks", "told", "k"] ["long", "size", "least"] (defScope s_surely_rows) := ⟨rfl, rfl, rfl, by decide +kernel, rfl, by decide +kernel, by decide +kernel⟩
def b_surely_rows : SM :=
  sSeq (sFor (iR1 (aCons (eBin addD (eV 0) (eC (.int 1))) (aNil))) (gN 3) (sSeq (sSet 4 (eB sumD (aCons (eFz (eComp [5] (iR1 (aCons (eB maxX (aCons (eC (.int 0)) (aCons (eBin subD (eV 2) (eC (.int 1))) (aNil)))) (aNil))) (gN 5) (bYes) (eBin mulD (eCall 2 (f_choose) (aCons (eBin subD (eV 0) (eC (.int 1))) (aCons (eV 5) (aNil)))) (eCall 2 (f_power) (aCons (eBin subD (eV 1) (eC (.int 1))) (aCons (eV 5) (aNil))))))) (aNil)))) (sSeq (sIf (bOr (bOf (eBin ltD (eV 4) (eCall 2 (f_power) (aCons (eV 1) (aCons (eV 3) (aNil)))))) (bOf (eBin eqD (eV 2) (eC (.int 1))))) (sSeq (sRet (eBin subD (eV 0) (eV 3))) (sNx)) (sNx)) (sNx)))) (sSeq (sRet (eC (.int 0))) (sNx))
def f_surely_rows : List D → Rs := runF 6 b_surely_rows
theorem ok_surely_rows {f : Addr} {fd : FuncData} (B : Blt mg) (F : Fun K "surely_rows" "surely_rows" s_surely_rows f fd) (h_power : Cal P w K mg base CX0 "power" ["one", "many"] 1 (spD0 K 2 (f_power))) (h_choose : Cal P w K mg base CX0 "choose" ["many", "few"] 1 (spD0 K 2 (f_choose))) : FnOk P w K mg base CX0 2 f fd ["long", "size", "least"] (spD0 K 3 f_surely_rows) := by
  refine ok_D0 (k := 1) (N := ["long", "size", "least", "checks", "told", "k"]) F sc_surely_rows fun cdv A outer s H E hr => ?_
  have hu := hr.units
  have nd := sc_surely_rows.nd
  exact (ds_cons (ds_for PassesOwn.never rfl (di_range1 (by rfl) B.range (da_cons (de_op od_add (de_v 0) (dl_e de_int)) da_nil)) (dg_name 3 nd rfl (by first | exact Or.inl rfl | exact Or.inr rfl)) (ds_cons (ds_set 4 nd (de_B (cd_sum rfl) (by rfl) B.sum bt_sum (da_cons (de_f (df_comp (own := [("k", 5)]) rfl nd (di_range1 (by rfl) B.range (da_cons (de_B (cd_maxX rfl hu) (by rfl) B.max bt_max (da_cons de_int (da_cons (de_op od_sub (de_v 2) (dl_e de_int)) da_nil))) da_nil)) (blkOk_by (by rfl)) (fun _ _ _ _ _ => (dg_name 5 nd rfl (by first | exact Or.inl rfl | exact Or.inr rfl))) (fun _ _ _ _ _ => dts_nil) (fun _ _ _ _ _ => (de_op od_mul (de_fn h_choose (hr.mono (by decide)) (da_cons (de_op od_sub (de_v 0) (dl_e de_int)) (da_cons (de_v 5) da_nil))) (dl_e (de_fn h_power (hr.mono (by decide)) (da_cons (de_op od_sub (de_v 1) (dl_e de_int)) (da_cons (de_v 5) da_nil)))))) (by decide))) da_nil))) (ds_cons (ds_if (dt_w (dw_or (dt_cmp od_lt (de_v 4) (dl_e (de_fn h_power (hr.mono (by decide)) (da_cons (de_v 1) (da_cons (de_v 3) da_nil)))) (nomark _)) (dw_or1 (dt_cmp (od_eq hu) (de_v 2) (dl_e de_int) (nomark _))))) (ds_cons (ds_ret (de_op od_sub (de_v 0) (dl_e (de_v 3)))) ds_nil) ds_nil) ds_nil))) (ds_cons (ds_ret de_int) ds_nil))
/-! ### all_bounds -/
abbrev s_all_bounds : Stmt := topS 14
theorem sc_all_bounds : FnScope ["long", "size", "least", "found"] ["long", "size", "least"] (defScope s_all_bounds) := ⟨rfl, rfl, rfl, by decide +kernel, rfl, by decide +kernel, by decide +kernel⟩
def b_all_bounds : SM :=
  sSeq (sDic 3 false (eDisp false [(eC (.str "spheres"), eCall 3 (f_by_spheres) (aCons (eV 0) (aCons (eV 1) (aCons (eV 2) (aNil))))), (eC (.str "places"), eCall 3 (f_by_places) (aCons (eV 0) (aCons (eV 1) (aCons (eV 2) (aNil)))))])) (sSeq (sSetIx 3 (eCall 3 (f_by_sums) (aCons (eV 0) (aCons (eV 1) (aCons (eV 2) (aNil))))) (eC (.str "sums"))) (sSeq (sRet (eV 3)) (sNx)))
def f_all_bounds : List D → Rs := runF 4 b_all_bounds
theorem ok_all_bounds {f : Addr} {fd : FuncData} (B : Blt mg) (F : Fun K "all_bounds" "all_bounds" s_all_bounds f fd) (h_by_sums : Cal P w K mg base CX0 "by_sums" ["long", "size", "least"] 1 (spD0 K 3 (f_by_sums))) (h_by_places : Cal P w K mg base CX0 "by_places" ["long", "size", "least"] 2 (spD0 K 3 (f_by_places))) (h_by_spheres : Cal P w K mg base CX0 "by_spheres" ["long", "size", "least"] 3 (spD0 K 3 (f_by_spheres))) : FnOk P w K mg base CX0 4 f fd ["long", "size", "least"] (spD0 K 3 f_all_bounds) := by
  refine ok_D0 (k := 3) (N := ["long", "size", "least", "found"]) F sc_all_bounds fun cdv A outer s H E hr => ?_
  have hu := hr.units
  have nd := sc_all_bounds.nd
  exact (ds_cons (ds_dic 3 nd (dm_disp hu (DPr.cons de_str (de_fn h_by_spheres (hr.mono (by decide)) (da_cons (de_v 0) (da_cons (de_v 1) (da_cons (de_v 2) da_nil)))) (DPr.cons de_str (de_fn h_by_places (hr.mono (by decide)) (da_cons (de_v 0) (da_cons (de_v 1) (da_cons (de_v 2) da_nil)))) DPr.nil)))) (ds_cons (ds_setIx hu 3 (de_fn h_by_sums (hr.mono (by decide)) (da_cons (de_v 0) (da_cons (de_v 1) (da_cons (de_v 2) da_nil)))) de_str) (ds_cons (ds_ret (de_v 3)) ds_nil)))
/-! ### fits_bounds -/
abbrev s_fits_bounds : Stmt := topS 15
theorem sc_fits_bounds : FnScope ["long", "size", "least", "many", "told", "name"] ["long", "size", "least", "many"] (defScope s_fits_bounds) := ⟨rfl, rfl, rfl, by decide +kernel, rfl, by decide +kernel, by decide +kernel⟩
def b_fits_bounds : SM :=
  sSeq (sSet 4 (eCall 3 (f_all_bounds) (aCons (eV 0) (aCons (eV 1) (aCons (eV 2) (aNil)))))) (sSeq (sRet (eB allD (aCons (eFz (eComp [5] (iA (eV 4)) (gN 5) (bYes) (eOr (eBin isD (eIx (eV 4) (eV 5)) (eC .none)) (eBin leD (eV 3) (eIx (eV 4) (eV 5)))))) (aNil)))) (sNx))
def f_fits_bounds : List D → Rs := runF 6 b_fits_bounds
theorem ok_fits_bounds {f : Addr} {fd : FuncData} (B : Blt mg) (F : Fun K "fits_bounds" "fits_bounds" s_fits_bounds f fd) (h_all_bounds : Cal P w K mg base CX0 "all_bounds" ["long", "size", "least"] 4 (spD0 K 3 (f_all_bounds))) : FnOk P w K mg base CX0 5 f fd ["long", "size", "least", "many"] (spD0 K 4 f_fits_bounds) := by
  refine ok_D0 (k := 4) (N := ["long", "size", "least", "many", "told", "name"]) F sc_fits_bounds fun cdv A outer s H E hr => ?_
  have hu := hr.units
  have nd := sc_fits_bounds.nd
  exact (ds_cons (ds_set 4 nd (de_fn h_all_bounds (hr.mono (by decide)) (da_cons (de_v 0) (da_cons (de_v 1) (da_cons (de_v 2) da_nil))))) (ds_cons (ds_ret (de_B (cd_all rfl) (by rfl) B.all bt_all (da_cons (de_f (df_comp (own := [("name", 5)]) rfl nd (di_any (de_v 4)) (blkOk_by (by rfl)) (fun _ _ _ _ _ => (dg_name 5 nd rfl (by first | exact Or.inl rfl | exact Or.inr rfl))) (fun _ _ _ _ _ => dts_nil) (fun _ _ _ _ _ => (de_or (de_cmp od_is (de_ix hu (de_v 4) (de_v 5)) (dl_e de_non) (nomark _)) (de_one (de_cmp od_le (de_v 3) (dl_e (de_ix hu (de_v 4) (de_v 5))) (nomark _))))) (by decide))) da_nil))) ds_nil))
/-! ### next_word -/
abbrev s_next_word : Stmt := topS 17
theorem sc_next_word : FnScope ["size", "word", "k"] ["size", "word"] (defScope s_next_word) := ⟨rfl, rfl, rfl, by decide +kernel, rfl, by decide +kernel, by decide +kernel⟩
def b_next_word : SM :=
  sSeq (sFor (iR3 (aCons (eBin subD (eB lenD (aCons (eV 1) (aNil))) (eC (.int 1))) (aCons (eUn negD (eC (.int 1))) (aCons (eUn negD (eC (.int 1))) (aNil))))) (gN 2) (sSeq (sIf (bOf (eBin ltD (eBin addD (eIx (eV 1) (eV 2)) (eC (.int 1))) (eV 0))) (sSeq (sRet (eBin addD (eBin addD (eSl (eV 1) (oNo) (oSome (eV 2))) (eTup (aCons (eBin addD (eIx (eV 1) (eV 2)) (eC (.int 1))) (aNil)))) (eBin mulD (eTup (aCons (eC (.int 0)) (aNil))) (eBin subD (eBin subD (eB lenD (aCons (eV 1) (aNil))) (eV 2)) (eC (.int 1)))))) (sNx)) (sNx)) (sNx))) (sSeq (sRet (eC .none)) (sNx))
def f_next_word : List D → Rs := runF 3 b_next_word
theorem ok_next_word {f : Addr} {fd : FuncData} (B : Blt mg) (F : Fun K "next_word" "next_word" s_next_word f fd)  : FnOk P w K mg base CX0 1 f fd ["size", "word"] (spD0 K 2 f_next_word) := by
  refine ok_D0 (k := 0) (N := ["size", "word", "k"]) F sc_next_word fun cdv A outer s H E hr => ?_
  have hu := hr.units
  have nd := sc_next_word.nd
  exact (ds_cons (ds_for PassesOwn.never rfl (di_range3 B.range (da_cons (de_op od_sub (de_B cd_len (by rfl) B.len bt_len (da_cons (de_v 1) da_nil)) (dl_e de_int)) (da_cons (de_un ud_neg de_int) (da_cons (de_un ud_neg de_int) da_nil)))) (dg_name 2 nd rfl (by first | exact Or.inl rfl | exact Or.inr rfl)) (ds_cons (ds_if (dt_cmp od_lt (de_op od_add (de_ix hu (de_v 1) (de_v 2)) (dl_e de_int)) (dl_e (de_v 0)) (nomark _)) (ds_cons (ds_ret (de_op od_add (de_op od_add (de_sl (de_v 1) dp_none (dp_some (de_v 2))) (dl_e (de_tup (da_cons (de_op od_add (de_ix hu (de_v 1) (de_v 2)) (dl_e de_int)) da_nil)))) (dl_e (de_op od_mul (de_tup (da_cons de_int da_nil)) (dl_e (de_op od_sub (de_op od_sub (de_B cd_len (by rfl) B.len bt_len (da_cons (de_v 1) da_nil)) (dl_e (de_v 2))) (dl_e de_int))))))) ds_nil) ds_nil) ds_nil)) (ds_cons (ds_ret de_non) ds_nil))
/-! ### greedy -/
abbrev s_greedy : Stmt := topS 16
theorem sc_greedy : FnScope ["size", "long", "least", "found", "word", "other", "k"] ["size", "long", "least"] (defScope s_greedy) := ⟨rfl, rfl, rfl, by decide +kernel, rfl, by decide +kernel, by decide +kernel⟩
def b_greedy : SM :=
  sSeq (sIf (bOf (eBin gtD (eCall 2 (f_power) (aCons (eV 0) (aCons (eV 1) (aNil)))) (eC (.int 5000)))) (sSeq (sRaise "Great" "limit" (eC (.str "words"))) (sNx)) (sNx)) (sSeq (sParK 3 4 (vO (eBind (aNil) fun ds => if small ds.length then eRet ds else fun _ => .bad)) (vD (eBin mulD (eTup (aCons (eC (.int 0)) (aNil))) (eV 1)))) (sSeq (sWhile 1000000 (bOf (eBin isntD (eV 4) (eC .none))) (sSeq (sIf (bOf (eB allD (aCons (eFz (eCompO [5] 3 (gN 5) (bYes) (eBin geD (eB lenD (aCons (eFz (eComp [6] (iR1 (aCons (eV 1) (aNil))) (gN 6) (bOf (eBin neD (eIx (eV 4) (eV 6)) (eIx (eV 5) (eV 6)))) (eV 6))) (aNil))) (eV 2)))) (aNil)))) (sSeq (sExpr (eMut 3 appD (aCons (eV 4) (aNil)))) (sNx)) (sNx)) (sSeq (sSet 4 (eCall 2 (f_next_word) (aCons (eV 0) (aCons (eV 4) (aNil))))) (sNx)))) (sSeq (sRet (eV 3)) (sNx))))
def f_greedy : List D → Rs := runF 7 b_greedy
theorem ok_greedy {f : Addr} {fd : FuncData} (B : Blt mg) (F : Fun K "greedy" "greedy" s_greedy f fd) (h_next_word : Cal P w K mg base CX0 "next_word" ["size", "word"] 1 (spD0 K 2 (f_next_word))) (h_power : Cal P w K mg base CX0 "power" ["one", "many"] 1 (spD0 K 2 (f_power))) (x_Great : ExC P w K mg base "Great" "limit") : FnOk P w K mg base (L2.CX P w) 3 f fd ["size", "long", "least"] (spDX K mg 3 f_greedy) := by
  refine ok_DX (k := 2) (N := ["size", "long", "least", "found", "word", "other", "k"]) F sc_greedy fun cdv A outer s H E hr => ?_
  have tk : Takes (cxOf (L2.CX P w) P w K mg base ["size", "long", "least", "found", "word", "other", "k"] "greedy" (defScope s_greedy) f cdv A outer s H E) (fun cls d _ H => E cls d H) := takes_of rfl rfl rfl rfl
  have po : PassesOwn (model P w) (A.deeper (envOfC "greedy" (defScope s_greedy) s.heap.objs.size f cdv)) (envOfC "greedy" (defScope s_greedy) s.heap.objs.size f cdv) (cxOf (L2.CX P w) P w K mg base ["size", "long", "least", "found", "word", "other", "k"] "greedy" (defScope s_greedy) f cdv A outer s H E).xe := passes_of (X := cxOf (L2.CX P w) P w K mg base ["size", "long", "least", "found", "word", "other", "k"] "greedy" (defScope s_greedy) f cdv A outer s H E) rfl
  have hu := hr.units
  have nd := sc_greedy.nd
  exact (ds_cons (ds_if (dt_cmp od_gt (de_fn h_power (hr.mono (by decide)) (da_cons (de_v 0) (da_cons (de_v 1) da_nil))) (dl_e de_int) (nomark _)) (ds_cons (ds_raise tk x_Great (hr.mono (by decide)) de_str) ds_nil) ds_nil) (ds_cons (ds_asgK 3 4 rfl nd (dk_o (df_lst da_nil)) (dk_d (de_op od_mul (de_tup (da_cons de_int da_nil)) (dl_e (de_v 1))))) (ds_cons (ds_while 1000000 po (dt_cmp od_isnt (de_v 4) (dl_e de_non) (nomark _)) (ds_cons (ds_if (dt_val (de_B (cd_all rfl) (by rfl) B.all bt_all (da_cons (de_f (df_compO (own := [("other", 5)]) 3 rfl nd (blkOk_by (by rfl)) (fun _ _ _ _ _ => (dg_name 5 nd rfl (by first | exact Or.inl rfl | exact Or.inr rfl))) (fun _ _ _ _ _ => dts_nil) (fun _ _ _ _ _ => (de_cmp od_ge (de_B cd_len (by rfl) B.len bt_len (da_cons (de_f (df_comp (own := [("k", 6)]) rfl nd (di_range1 (by rfl) B.range (da_cons (de_v 1) da_nil)) (blkOk_by (by rfl)) (fun _ _ _ _ _ => (dg_name 6 nd rfl (by first | exact Or.inl rfl | exact Or.inr rfl))) (fun _ _ _ _ _ => (dts_one (dt_cmp (od_ne hu) (de_ix hu (de_v 4) (de_v 6)) (dl_e (de_ix hu (de_v 5) (de_v 6))) (nomark _)))) (fun _ _ _ _ _ => (de_v 6)) (by decide))) da_nil)) (dl_e (de_v 2)) (nomark _))) (by decide))) da_nil))) (ds_cons (ds_expr (de_mut 3 md_append PySem.F.slot_list_append PySem.F.type_list_append (da_cons (de_v 4) da_nil))) ds_nil) ds_nil) (ds_cons (ds_set 4 nd (de_fn h_next_word (hr.mono (by decide)) (da_cons (de_v 0) (da_cons (de_v 4) da_nil)))) ds_nil))) (ds_cons (ds_ret (de_v 3)) ds_nil))))
/-! ### _law_state -/
abbrev s__law_state : Stmt := topS 19
theorem sc__law_state : FnScope ["script", "cells", "cell"] ["script"] (defScope s__law_state) := ⟨rfl, rfl, rfl, by decide +kernel, rfl, by decide +kernel, by decide +kernel⟩
theorem ok__law_state {f : Addr} {fd : FuncData} (B : Blt mg) (F : Fun K "_law_state" "_law_state" s__law_state f fd) : FnOk P w K mg base CX0 1 f fd ["script"] (spSt K) := by
  refine F.ok (k := 0) sc__law_state (fun vs H Q E h => ?_) (fun cdv A outer s H vs Q E hr h => ?_)
  · obtain ⟨a, ns, rfl, _⟩ := h
    rfl
  · obtain ⟨a, ns, rfl, hS, hlen, q⟩ := h
    have hu := hr.units
    have nd := sc__law_state.nd
    have hrest : ∀ X : Cx, X = (cxOf CX0 P w K mg base ["script", "cells", "cell"] "_law_state" (defScope s__law_state) f cdv A outer s H E).nox → DSs X W0 (defBody s__law_state).tail stRest := fun X e => by
      subst e
      exact (ds_cons (ds_if (dt_cmp (od_eq hu) (de_B cd_len (by rfl) B.len bt_len (da_cons (de_v 1) da_nil)) (dl_e de_int) (nomark _)) (ds_cons (ds_set 1 nd (de_lst (da_cons de_int da_nil))) ds_nil) ds_nil)
        (ds_cons (ds_ret (de_lst (da_cons de_int (da_cons (de_v 1) da_nil)))) ds_nil))
    refine ⟨_, pss_cons (ps_setLc (own := [("cell", 2)]) (i := 1) rfl nd rfl rfl (sw_true rfl rfl rfl (by decide +kernel)) (pi_list (pe_slice sl_list (pv 0) po_none (po_some pe_int))) (blkOk_by (by rfl)) (fun _ _ _ _ _ => pg_name (i := 2) nd rfl (by first | exact Or.inl rfl | exact Or.inr rfl)) (fun _ _ _ _ _ => pts_nil)
      (fun _ _ _ _ _ => pe_callB call_abs (by rfl) B.abs bt_abs (pa_cons (pv 2) pa_nil))) (hrest _ rfl), ?_⟩
    exact state_all hS hlen q
/-! ### _law_take -/
abbrev s__law_take : Stmt := topS 20
theorem sc__law_take : FnScope ["state", "most", "cells", "at", "cell", "mixed"] ["state", "most"] (defScope s__law_take) := ⟨rfl, rfl, rfl, by decide +kernel, rfl, by decide +kernel, by decide +kernel⟩
abbrev f__law_take := takeW
theorem ok__law_take {f : Addr} {fd : FuncData} (B : Blt mg) (F : Fun K "_law_take" "_law_take" s__law_take f fd) : FnOk P w K mg base CX0 1 f fd ["state", "most"] (spW K 2 takeW) := by
  refine F.ok (k := 0) sc__law_take (fun vs H Q E h => ?_) (fun cdv A outer s H vs Q E hr h => ?_)
  · obtain ⟨a, k, ns, vs', ds, Z, F, rfl, hl, r, _⟩ := h
    rw [List.length_cons, r.length]
    exact hl
  · obtain ⟨a, k, ns, vs', ds, Z, F, rfl, hl, r, h, q⟩ := h
    have nd := sc__law_take.nd
    obtain ⟨b, e1, _, ha, hb⟩ := h.one
    have e1' : F = [a, b] := e1
    subst e1'
    obtain ⟨m, rfl⟩ := takeW_int (fun e => by rw [e] at q; exact q)
    cases r with | cons r1 r2 =>
    cases r1
    cases r2
    unfold takeW at q
    dsimp only at q
    rcases heq : takeL k ns m with _ | ⟨r1, k', ns'⟩
    · rw [heq] at q
      exact q.elim
    rw [heq] at q
    dsimp only at q
    · refine ⟨_, pss_cons (ps_if (pt_cmpR op_lt (pv 1) pe_int (nomark _)) (pss_one (ps_ret pe_int)) pss_nil)
        (pss_cons (ps_set (i := 2) nd rfl (.inl rfl) (pe_ix ix_list (pv 0) pe_int (fun _ _ => rfl)))
        (pss_cons (ps_set (i := 3) nd rfl (.inl rfl) (pe_op op_mod (pe_callTy call_int1 (by rfl) B.int bt_int (pa_cons (pe_ix ix_list (pv 0) pe_int (fun _ _ => rfl)) pa_nil)) (pe_callB call_len_seq (by rfl) B.len bt_len (pa_cons (pv 2) pa_nil))))
        (pss_cons (ps_set (i := 4) nd rfl (.inl rfl) (pe_ix ix_list (pv 2) (pv 3) (fun _ _ => rfl)))
        (pss_cons (ps_if (pt_cmpR op_ge (pv 4) pe_int (nomark _))
          (pss_cons (ps_asg (pe_op op_fdivW (pv 4) (pv 1)) (pg_sub (pv 2) (pv 3) set_list))
          (pss_one (ps_ret (pe_op op_mod (pe_callTy call_int1 (by rfl) B.int bt_int (pa_cons (pv 4) pa_nil)) (pv 1))))) pss_nil)
        (pss_cons (ps_asg (pe_op op_add (pe_ix ix_list (pv 0) pe_int (fun _ _ => rfl)) pe_int) (pg_sub (pv 0) pe_int set_list))
        (pss_cons (ps_set (i := 5) nd rfl (.inl rfl) (pe_op op_mod (pe_callTy call_int1 (by rfl) B.int bt_int (pa_cons (pe_op op_add (pe_op op_mul (pv 4) pe_int) (pe_op op_mul (pe_ix ix_list (pv 0) pe_int (fun _ _ => rfl)) pe_int)) pa_nil)) pe_int))
        (pss_cons (ps_set (i := 5) nd rfl (.inl rfl) (pe_op op_mod (pe_callTy call_int1 (by rfl) B.int bt_int (pa_cons (pe_op op_add (pe_op op_mul (pv 5) pe_int) (pe_op op_mul (pe_ix ix_list (pv 0) pe_int (fun _ _ => rfl)) pe_int)) pa_nil)) pe_int))
        (pss_one (ps_ret (pe_op op_mod (pe_callTy call_int1 (by rfl) B.int bt_int (pa_cons (pe_op op_fdiv (pv 5) pe_int) pa_nil)) (pv 1))))))))))), ?_⟩
      refine ⟨_, rfl, m, 2, rfl, rfl, _, rfl, ?_⟩
      unfold takeL at heq
      by_cases h2 : m < 2
      · rw [if_pos h2] at heq
        cases heq
        rw [decide_eq_true h2]
        refine iteT ?_
        exact q ⟨Z, H, [a, b]⟩ _ (Stp.refl _) h (.int 0)
      · rw [if_neg h2] at heq
        rw [decide_eq_false h2]
        refine iteF ?_
        · split at heq
          rotate_left
          · cases heq
          · rename_i hpos
            obtain ⟨cell, ec, heq⟩ := Option.bind_eq_some_iff.mp heq
            have hlp : (0 : Int) < ns.length := by omega
            refine ⟨.ref a, rfl, a, _, 1, .ref b, rfl, rfl, SqL.of ha, rfl, ?_⟩
            refine ⟨.ref a, rfl, a, _, 0, .int k, rfl, rfl, SqL.of ha, rfl, .inl ⟨k, rfl, ?_⟩⟩
            refine ⟨.ref b, rfl, b, _, rfl, .inl (SqL.of hb), k, (ns.length : Int), rfl, by rw [List.length_map], hlp, ?_⟩
            have am := Int.emod_nonneg k (show (ns.length : Int) ≠ 0 by omega)
            have eat : ((k % (ns.length : Int)).toNat : Int) = k % (ns.length : Int) := Int.toNat_of_nonneg am
            have egt : (ns.map V.int)[(k % (ns.length : Int)).toNat]? = some (.int cell) := by
              rw [List.getElem?_map, ec]
              rfl
            have hlt : (k % (ns.length : Int)).toNat < ns.length := by
              rcases Nat.lt_or_ge (k % (ns.length : Int)).toNat ns.length with z | z
              · exact z
              · rw [List.getElem?_eq_none z] at ec
                cases ec
            refine ⟨.ref b, rfl, _, rfl, b, _, _, .int cell, rfl, rfl, SqL.of hb, by rw [← eat]; exact atI_nat egt, ?_⟩
            refine ⟨_, rfl, cell, _, rfl, rfl, _, rfl, ?_⟩
            by_cases hc : 1000000000000000000 ≤ cell
            · rw [if_pos hc] at heq
              rw [decide_eq_true hc]
              refine iteT ?_
              split at heq
              · rename_i hm
                cases heq
                have hm0 : (0 : Int) < m := by omega
                refine ⟨_, rfl, _, rfl, cell, m, rfl, rfl, wide_div hm0 (b := 200) (by
                  obtain ⟨n, rfl⟩ := Int.eq_ofNat_of_zero_le (Int.le_of_lt hm0)
                  show n < 2 ^ 200
                  exact_mod_cast hm) (by decide) (by decide), ?_⟩
                refine ⟨.ref b, rfl, _, rfl, b, _, _, (k % (ns.length : Int)).toNat, rfl, rfl, hb, ?_, ?_⟩
                · rw [← eat, List.length_map]
                  unfold ixN
                  rw [if_pos (Int.natCast_nonneg _), if_pos (by omega)]
                · refine ⟨_, rfl, .inl ⟨cell, rfl, ?_⟩⟩
                  refine ⟨_, rfl, cell, m, rfl, rfl, hm0, ?_⟩
                  obtain ⟨st, hh⟩ := take_set1 (ns' := ns.set (k % (ns.length : Int)).toNat (cell / m)) h ha hb
                  rw [List.map_set] at st hh
                  exact q _ _ st hh (.int _)
              · cases heq
            · rw [if_neg hc] at heq
              rw [decide_eq_false hc]
              refine iteF ?_
              cases heq
              have hm0 : (0 : Int) < m := by omega
              refine ⟨.ref a, rfl, a, _, 0, .int k, rfl, rfl, SqL.of ha, rfl, k, 1, rfl, rfl, ?_⟩
              refine ⟨.ref a, rfl, a, _, 0, 0, rfl, rfl, ha, rfl, ?_⟩
              have ha' : (upd H a (.lst [.int (k + 1), .ref b])) a = some (.lst [.int (k + 1), .ref b]) := upd_same
              refine ⟨_, rfl, cell, 48271, rfl, rfl, .inr (by decide), ?_⟩
              refine ⟨.ref a, rfl, _, _, _, _, rfl, rfl, SqL.of ha', rfl, _, 69621, rfl, rfl, .inr (by decide), _, _, rfl, rfl, .inl ⟨_, rfl, _, 2147483647, rfl, rfl, (by decide : (0 : Int) < 2147483647), ?_⟩⟩
              refine ⟨_, rfl, _, 16807, rfl, rfl, .inr (by decide), ?_⟩
              refine ⟨.ref a, rfl, _, _, _, _, rfl, rfl, SqL.of ha', rfl, _, 7919, rfl, rfl, .inr (by decide), _, _, rfl, rfl, .inl ⟨_, rfl, _, 1000000007, rfl, rfl, (by decide : (0 : Int) < 1000000007), ?_⟩⟩
              refine ⟨_, rfl, _, 7, rfl, rfl, ⟨(by decide : (0 : Int) < 7), (by decide : (7 : Int) < 1073741824)⟩, .inl ⟨_, rfl, _, rfl, _, m, rfl, rfl, hm0, ?_⟩⟩
              obtain ⟨st, hh⟩ := take_set0 (k' := k + 1) h ha hb
              exact q _ _ st hh (.int _)
/-! ### _law_pick -/
abbrev s__law_pick : Stmt := topS 21
theorem sc__law_pick : FnScope ["state", "row"] ["state", "row"] (defScope s__law_pick) := ⟨rfl, rfl, rfl, by decide +kernel, rfl, by decide +kernel, by decide +kernel⟩
def b__law_pick : SM :=
  sSeq (sRet (eIx (eV 1) (eCallW 0 2 f__law_take (aCons (eB lenD (aCons (eV 1) (aNil))) (aNil))))) (sNx)
def f__law_pick : Addr → Int → List Int → List D → Rw := runW 2 b__law_pick
theorem ok__law_pick {f : Addr} {fd : FuncData} (B : Blt mg) (F : Fun K "_law_pick" "_law_pick" s__law_pick f fd) (h__law_take : Cal P w K mg base CX0 "_law_take" ["state", "most"] 1 (spW K 2 f__law_take)) : FnOk P w K mg base CX0 2 f fd ["state", "row"] (spW K 2 f__law_pick) := by
  refine ok_W (k := 1) (N := ["state", "row"]) F sc__law_pick (by decide) fun cdv A outer s H E hr => ?_
  have hu := hr.units
  have nd := sc__law_pick.nd
  exact (ds_cons (ds_ret (de_ix hu (de_v 1) (de_fnW 0 h__law_take (hr.mono (by decide)) (da_cons (de_B cd_len (by rfl) B.len bt_len (da_cons (de_v 1) da_nil)) da_nil)))) ds_nil)
/-! ### _law_digits -/
abbrev s__law_digits : Stmt := topS 22
theorem sc__law_digits : FnScope ["number", "base", "many", "found", "turn"] ["number", "base", "many"] (defScope s__law_digits) := ⟨rfl, rfl, rfl, by decide +kernel, rfl, by decide +kernel, by decide +kernel⟩
def b__law_digits : SM :=
  sSeq (sOwn 3 (eBind (aNil) fun ds => if small ds.length then eRet ds else fun _ => .bad)) (sSeq (sFor (iR1 (aCons (eV 2) (aNil))) (gN 4) (sSeq (sExpr (eMut 3 appD (aCons (eBin modD (eB intD (aCons (eV 0) (aNil))) (eV 1)) (aNil)))) (sSeq (sSet 0 (eBin fdivD (eV 0) (eV 1))) (sNx)))) (sSeq (sRet (eV 3)) (sNx)))
def f__law_digits : List D → Rs := runF 5 b__law_digits
theorem ok__law_digits {f : Addr} {fd : FuncData} (B : Blt mg) (F : Fun K "_law_digits" "_law_digits" s__law_digits f fd)  : FnOk P w K mg base CX0 1 f fd ["number", "base", "many"] (spD0 K 3 f__law_digits) := by
  refine ok_D0 (k := 0) (N := ["number", "base", "many", "found", "turn"]) F sc__law_digits fun cdv A outer s H E hr => ?_
  have hu := hr.units
  have nd := sc__law_digits.nd
  exact (ds_cons (ds_own 3 nd (df_lst da_nil)) (ds_cons (ds_for PassesOwn.never rfl (di_range1 (by rfl) B.range (da_cons (de_v 2) da_nil)) (dg_name 4 nd rfl (by first | exact Or.inl rfl | exact Or.inr rfl)) (ds_cons (ds_expr (de_mut 3 md_append PySem.F.slot_list_append PySem.F.type_list_append (da_cons (de_op od_mod (de_Ty cd_int (by rfl) B.int bt_int (da_cons (de_v 0) da_nil)) (dl_e (de_v 1))) da_nil))) (ds_cons (ds_set 0 nd (de_op od_fdiv (de_v 0) (dl_e (de_v 1)))) ds_nil))) (ds_cons (ds_ret (de_v 3)) ds_nil)))
/-! ### _law_field -/
abbrev s__law_field : Stmt := topS 23
theorem sc__law_field : FnScope ["size", "base", "many", "lead", "sums", "products", "a", "first", "second", "b", "one", "other", "row", "i", "j", "k"] ["size"] (defScope s__law_field) := ⟨rfl, rfl, rfl, by decide +kernel, rfl, by decide +kernel, by decide +kernel⟩
def b__law_field : SM :=
  sSeq (sAsg (eGet2 (eDic (eFzM false (eDisp false [(eC (.int 4), eTup (aCons (eC (.int 2)) (aCons (eC (.int 2)) (aCons (eLst (aCons (eC (.int 1)) (aCons (eC (.int 1)) (aNil)))) (aNil))))), (eC (.int 8), eTup (aCons (eC (.int 2)) (aCons (eC (.int 3)) (aCons (eLst (aCons (eC (.int 1)) (aCons (eC (.int 1)) (aCons (eC (.int 0)) (aNil))))) (aNil))))), (eC (.int 9), eTup (aCons (eC (.int 3)) (aCons (eC (.int 2)) (aCons (eLst (aCons (eC (.int 2)) (aCons (eC (.int 0)) (aNil)))) (aNil))))), (eC (.int 16), eTup (aCons (eC (.int 2)) (aCons (eC (.int 4)) (aCons (eLst (aCons (eC (.int 1)) (aCons (eC (.int 1)) (aCons (eC (.int 0)) (aCons (eC (.int 0)) (aNil)))))) (aNil)))))]))) (eV 0) (eTup (aCons (eV 0) (aCons (eC (.int 1)) (aCons (eLst (aCons (eC (.int 0)) (aNil))) (aNil)))))) (gT (gsCons (gN 1) (gsCons (gN 2) (gsCons (gN 3) (gsNil)))) 3)) (sSeq (sParK 4 5 (vO (eBind (aNil) fun ds => if small ds.length then eRet ds else fun _ => .bad)) (vO (eBind (aNil) fun ds => if small ds.length then eRet ds else fun _ => .bad))) (sSeq (sFor (iR1 (aCons (eV 0) (aNil))) (gN 6) (sSeq (sParK 7 8 (vO (eBind (aNil) fun ds => if small ds.length then eRet ds else fun _ => .bad)) (vO (eBind (aNil) fun ds => if small ds.length then eRet ds else fun _ => .bad))) (sSeq (sFor (iR1 (aCons (eV 0) (aNil))) (gN 9) (sSeq (sAsg (eTup (aCons (eCall 3 (f__law_digits) (aCons (eV 6) (aCons (eV 1) (aCons (eV 2) (aNil))))) (aCons (eCall 3 (f__law_digits) (aCons (eV 9) (aCons (eV 1) (aCons (eV 2) (aNil))))) (aNil)))) (gT (gsCons (gN 10) (gsCons (gN 11) (gsNil))) 2)) (sSeq (sExpr (eMut 7 appD (aCons (eB sumD (aCons (eFz (eComp [15] (iR1 (aCons (eV 2) (aNil))) (gN 15) (bYes) (eBin mulD (eBin modD (eB intD (aCons (eBin addD (eIx (eV 10) (eV 15)) (eIx (eV 11) (eV 15))) (aNil))) (eV 1)) (eIx (eLst (aCons (eC (.int 1)) (aCons (eV 1) (aCons (eBin mulD (eV 1) (eV 1)) (aCons (eBin mulD (eBin mulD (eV 1) (eV 1)) (eV 1)) (aNil)))))) (eV 15))))) (aNil))) (aNil)))) (sSeq (sOwn 12 (eBinF repF (eLst (aCons (eC (.int 0)) (aNil))) (eBin subD (eBin mulD (eC (.int 2)) (eV 2)) (eC (.int 1))))) (sSeq (sFor (iR1 (aCons (eV 2) (aNil))) (gN 13) (sSeq (sFor (iR1 (aCons (eV 2) (aNil))) (gN 14) (sSeq (sSetIx 12 (eBin addD (eIxO 12 (eBin addD (eV 13) (eV 14))) (eBin mulD (eIx (eV 10) (eV 13)) (eIx (eV 11) (eV 14)))) (eBin addD (eV 13) (eV 14))) (sNx))) (sNx))) (sSeq (sFor (iA (eUn revX (eFz (eLr2 (eV 2) (eBin subD (eBin mulD (eC (.int 2)) (eV 2)) (eC (.int 1))))))) (gN 15) (sSeq (sFor (iR1 (aCons (eV 2) (aNil))) (gN 14) (sSeq (sSetIx 12 (eBin addD (eIxO 12 (eBin addD (eBin subD (eV 15) (eV 2)) (eV 14))) (eBin mulD (eIxO 12 (eV 15)) (eIx (eV 3) (eV 14)))) (eBin addD (eBin subD (eV 15) (eV 2)) (eV 14))) (sNx))) (sNx))) (sSeq (sExpr (eMut 8 appD (aCons (eB sumD (aCons (eFz (eComp [15] (iR1 (aCons (eV 2) (aNil))) (gN 15) (bYes) (eBin mulD (eBin modD (eB intD (aCons (eIxO 12 (eV 15)) (aNil))) (eV 1)) (eIx (eLst (aCons (eC (.int 1)) (aCons (eV 1) (aCons (eBin mulD (eV 1) (eV 1)) (aCons (eBin mulD (eBin mulD (eV 1) (eV 1)) (eV 1)) (aNil)))))) (eV 15))))) (aNil))) (aNil)))) (sNx)))))))) (sSeq (sExpr (eMut 4 appD (aCons (eV 7) (aNil)))) (sSeq (sExpr (eMut 5 appD (aCons (eV 8) (aNil)))) (sNx)))))) (sSeq (sRet (eTup (aCons (eV 4) (aCons (eV 5) (aNil))))) (sNx))))
def f__law_field : List D → Rs := runF 16 b__law_field
theorem ok__law_field {f : Addr} {fd : FuncData} (B : Blt mg) (F : Fun K "_law_field" "_law_field" s__law_field f fd) (h__law_digits : Cal P w K mg base CX0 "_law_digits" ["number", "base", "many"] 1 (spD0 K 3 (f__law_digits))) : FnOk P w K mg base CX0 2 f fd ["size"] (spD0 K 1 f__law_field) := by
  refine ok_D0 (k := 1) (N := ["size", "base", "many", "lead", "sums", "products", "a", "first", "second", "b", "one", "other", "row", "i", "j", "k"]) F sc__law_field fun cdv A outer s H E hr => ?_
  have hu := hr.units
  have nd := sc__law_field.nd
  exact (ds_cons (ds_asg (de_get2 hu (de_m (t := false) (dm_disp hu (DPr.cons de_int (de_tup (da_cons de_int (da_cons de_int (da_cons (de_lst (da_cons de_int (da_cons de_int da_nil))) da_nil)))) (DPr.cons de_int (de_tup (da_cons de_int (da_cons de_int (da_cons (de_lst (da_cons de_int (da_cons de_int (da_cons de_int da_nil)))) da_nil)))) (DPr.cons de_int (de_tup (da_cons de_int (da_cons de_int (da_cons (de_lst (da_cons de_int (da_cons de_int da_nil))) da_nil)))) (DPr.cons de_int (de_tup (da_cons de_int (da_cons de_int (da_cons (de_lst (da_cons de_int (da_cons de_int (da_cons de_int (da_cons de_int da_nil))))) da_nil)))) DPr.nil)))))) (de_v 0) (de_tup (da_cons (de_v 0) (da_cons de_int (da_cons (de_lst (da_cons de_int da_nil)) da_nil))))) (dg_tup rfl (dgs_cons (dg_name 1 nd rfl (by first | exact Or.inl rfl | exact Or.inr rfl)) (dgs_cons (dg_name 2 nd rfl (by first | exact Or.inl rfl | exact Or.inr rfl)) (dgs_cons (dg_name 3 nd rfl (by first | exact Or.inl rfl | exact Or.inr rfl)) dgs_nil))))) (ds_cons (ds_parK 4 5 rfl nd (dk_o (df_lst da_nil)) (dk_o (df_lst da_nil)) (by decide)) (ds_cons (ds_for PassesOwn.never rfl (di_range1 (by rfl) B.range (da_cons (de_v 0) da_nil)) (dg_name 6 nd rfl (by first | exact Or.inl rfl | exact Or.inr rfl)) (ds_cons (ds_parK 7 8 rfl nd (dk_o (df_lst da_nil)) (dk_o (df_lst da_nil)) (by decide)) (ds_cons (ds_for PassesOwn.never rfl (di_range1 (by rfl) B.range (da_cons (de_v 0) da_nil)) (dg_name 9 nd rfl (by first | exact Or.inl rfl | exact Or.inr rfl)) (ds_cons (ds_asg (de_tup (da_cons (de_fn h__law_digits (hr.mono (by decide)) (da_cons (de_v 6) (da_cons (de_v 1) (da_cons (de_v 2) da_nil)))) (da_cons (de_fn h__law_digits (hr.mono (by decide)) (da_cons (de_v 9) (da_cons (de_v 1) (da_cons (de_v 2) da_nil)))) da_nil))) (dg_tup rfl (dgs_cons (dg_name 10 nd rfl (by first | exact Or.inl rfl | exact Or.inr rfl)) (dgs_cons (dg_name 11 nd rfl (by first | exact Or.inl rfl | exact Or.inr rfl)) dgs_nil)))) (ds_cons (ds_expr (de_mut 7 md_append PySem.F.slot_list_append PySem.F.type_list_append (da_cons (de_B (cd_sum rfl) (by rfl) B.sum bt_sum (da_cons (de_f (df_comp (own := [("k", 15)]) rfl nd (di_range1 (by rfl) B.range (da_cons (de_v 2) da_nil)) (blkOk_by (by rfl)) (fun _ _ _ _ _ => (dg_name 15 nd rfl (by first | exact Or.inl rfl | exact Or.inr rfl))) (fun _ _ _ _ _ => dts_nil) (fun _ _ _ _ _ => (de_op od_mul (de_op od_mod (de_Ty cd_int (by rfl) B.int bt_int (da_cons (de_op od_add (de_ix hu (de_v 10) (de_v 15)) (dl_e (de_ix hu (de_v 11) (de_v 15)))) da_nil)) (dl_e (de_v 1))) (dl_e (de_ix hu (de_lst (da_cons de_int (da_cons (de_v 1) (da_cons (de_op od_mul (de_v 1) (dl_e (de_v 1))) (da_cons (de_op od_mul (de_op od_mul (de_v 1) (dl_e (de_v 1))) (dl_e (de_v 1))) da_nil))))) (de_v 15))))) (by decide))) da_nil)) da_nil))) (ds_cons (ds_own 12 nd (df_rep (de_lst (da_cons de_int da_nil)) (dl_e (de_op od_sub (de_op od_mul de_int (dl_e (de_v 2))) (dl_e de_int))))) (ds_cons (ds_for PassesOwn.never rfl (di_range1 (by rfl) B.range (da_cons (de_v 2) da_nil)) (dg_name 13 nd rfl (by first | exact Or.inl rfl | exact Or.inr rfl)) (ds_cons (ds_for PassesOwn.never rfl (di_range1 (by rfl) B.range (da_cons (de_v 2) da_nil)) (dg_name 14 nd rfl (by first | exact Or.inl rfl | exact Or.inr rfl)) (ds_cons (ds_setIx hu 12 (de_op od_add (de_ixO hu 12 (de_op od_add (de_v 13) (dl_e (de_v 14)))) (dl_e (de_op od_mul (de_ix hu (de_v 10) (de_v 13)) (dl_e (de_ix hu (de_v 11) (de_v 14)))))) (de_op od_add (de_v 13) (dl_e (de_v 14)))) ds_nil)) ds_nil)) (ds_cons (ds_for PassesOwn.never rfl (di_any (de_revX (dl_e (de_f (df_lrng2 B.list B.range (de_v 2) (de_op od_sub (de_op od_mul de_int (dl_e (de_v 2))) (dl_e de_int))))))) (dg_name 15 nd rfl (by first | exact Or.inl rfl | exact Or.inr rfl)) (ds_cons (ds_for PassesOwn.never rfl (di_range1 (by rfl) B.range (da_cons (de_v 2) da_nil)) (dg_name 14 nd rfl (by first | exact Or.inl rfl | exact Or.inr rfl)) (ds_cons (ds_setIx hu 12 (de_op od_add (de_ixO hu 12 (de_op od_add (de_op od_sub (de_v 15) (dl_e (de_v 2))) (dl_e (de_v 14)))) (dl_e (de_op od_mul (de_ixO hu 12 (de_v 15)) (dl_e (de_ix hu (de_v 3) (de_v 14)))))) (de_op od_add (de_op od_sub (de_v 15) (dl_e (de_v 2))) (dl_e (de_v 14)))) ds_nil)) ds_nil)) (ds_cons (ds_expr (de_mut 8 md_append PySem.F.slot_list_append PySem.F.type_list_append (da_cons (de_B (cd_sum rfl) (by rfl) B.sum bt_sum (da_cons (de_f (df_comp (own := [("k", 15)]) rfl nd (di_range1 (by rfl) B.range (da_cons (de_v 2) da_nil)) (blkOk_by (by rfl)) (fun _ _ _ _ _ => (dg_name 15 nd rfl (by first | exact Or.inl rfl | exact Or.inr rfl))) (fun _ _ _ _ _ => dts_nil) (fun _ _ _ _ _ => (de_op od_mul (de_op od_mod (de_Ty cd_int (by rfl) B.int bt_int (da_cons (de_ixO hu 12 (de_v 15)) da_nil)) (dl_e (de_v 1))) (dl_e (de_ix hu (de_lst (da_cons de_int (da_cons (de_v 1) (da_cons (de_op od_mul (de_v 1) (dl_e (de_v 1))) (da_cons (de_op od_mul (de_op od_mul (de_v 1) (dl_e (de_v 1))) (dl_e (de_v 1))) da_nil))))) (de_v 15))))) (by decide))) da_nil)) da_nil))) ds_nil))))))) (ds_cons (ds_expr (de_mut 4 md_append PySem.F.slot_list_append PySem.F.type_list_append (da_cons (de_v 7) da_nil))) (ds_cons (ds_expr (de_mut 5 md_append PySem.F.slot_list_append PySem.F.type_list_append (da_cons (de_v 8) da_nil))) ds_nil))))) (ds_cons (ds_ret (de_tup (da_cons (de_v 4) (da_cons (de_v 5) da_nil)))) ds_nil))))
/-! ### _law_neg -/
abbrev s__law_neg : Stmt := topS 24
theorem sc__law_neg : FnScope ["field", "one"] ["field", "one"] (defScope s__law_neg) := ⟨rfl, rfl, rfl, by decide +kernel, rfl, by decide +kernel, by decide +kernel⟩
def b__law_neg : SM :=
  sSeq (sRet (eIdx (eIx (eIx (eV 0) (eC (.int 0))) (eV 1)) (eC (.int 0)))) (sNx)
def f__law_neg : List D → Rs := runF 2 b__law_neg
theorem ok__law_neg {f : Addr} {fd : FuncData} (B : Blt mg) (F : Fun K "_law_neg" "_law_neg" s__law_neg f fd)  : FnOk P w K mg base CX0 1 f fd ["field", "one"] (spD0 K 2 f__law_neg) := by
  refine ok_D0 (k := 0) (N := ["field", "one"]) F sc__law_neg fun cdv A outer s H E hr => ?_
  have hu := hr.units
  have nd := sc__law_neg.nd
  exact (ds_cons (ds_ret (de_index (de_ix hu (de_ix hu (de_v 0) de_int) (de_v 1)) de_int)) ds_nil)
/-! ### _law_dot -/
abbrev s__law_dot : Stmt := topS 25
theorem sc__law_dot : FnScope ["field", "one", "other", "found", "k"] ["field", "one", "other"] (defScope s__law_dot) := ⟨rfl, rfl, rfl, by decide +kernel, rfl, by decide +kernel, by decide +kernel⟩
def b__law_dot : SM :=
  sSeq (sSet 3 (eC (.int 0))) (sSeq (sFor (iR1 (aCons (eB lenD (aCons (eV 1) (aNil))) (aNil))) (gN 4) (sSeq (sSet 3 (eIx (eIx (eIx (eV 0) (eC (.int 0))) (eV 3)) (eIx (eIx (eIx (eV 0) (eC (.int 1))) (eIx (eV 1) (eV 4))) (eIx (eV 2) (eV 4))))) (sNx))) (sSeq (sRet (eV 3)) (sNx)))
def f__law_dot : List D → Rs := runF 5 b__law_dot
theorem ok__law_dot {f : Addr} {fd : FuncData} (B : Blt mg) (F : Fun K "_law_dot" "_law_dot" s__law_dot f fd)  : FnOk P w K mg base CX0 1 f fd ["field", "one", "other"] (spD0 K 3 f__law_dot) := by
  refine ok_D0 (k := 0) (N := ["field", "one", "other", "found", "k"]) F sc__law_dot fun cdv A outer s H E hr => ?_
  have hu := hr.units
  have nd := sc__law_dot.nd
  exact (ds_cons (ds_set 3 nd de_int) (ds_cons (ds_for PassesOwn.never rfl (di_range1 (by rfl) B.range (da_cons (de_B cd_len (by rfl) B.len bt_len (da_cons (de_v 1) da_nil)) da_nil)) (dg_name 4 nd rfl (by first | exact Or.inl rfl | exact Or.inr rfl)) (ds_cons (ds_set 3 nd (de_ix hu (de_ix hu (de_ix hu (de_v 0) de_int) (de_v 3)) (de_ix hu (de_ix hu (de_ix hu (de_v 0) de_int) (de_ix hu (de_v 1) (de_v 4))) (de_ix hu (de_v 2) (de_v 4))))) ds_nil)) (ds_cons (ds_ret (de_v 3)) ds_nil)))
/-! ### _law_mix -/
abbrev s__law_mix : Stmt := topS 26
theorem sc__law_mix : FnScope ["field", "rows", "shares", "wide", "found", "k", "j"] ["field", "rows", "shares", "wide"] (defScope s__law_mix) := ⟨rfl, rfl, rfl, by decide +kernel, rfl, by decide +kernel, by decide +kernel⟩
def b__law_mix : SM :=
  sSeq (sSet 4 (eBin mulD (eLst (aCons (eC (.int 0)) (aNil))) (eV 3))) (sSeq (sFor (iR1 (aCons (eB lenD (aCons (eV 1) (aNil))) (aNil))) (gN 5) (sSeq (sSet 4 (eFz (eComp [6] (iR1 (aCons (eV 3) (aNil))) (gN 6) (bYes) (eIx (eIx (eIx (eV 0) (eC (.int 0))) (eIx (eV 4) (eV 6))) (eIx (eIx (eIx (eV 0) (eC (.int 1))) (eIx (eV 2) (eV 5))) (eIx (eIx (eV 1) (eV 5)) (eV 6))))))) (sNx))) (sSeq (sRet (eB tupleD (aCons (eV 4) (aNil)))) (sNx)))
def f__law_mix : List D → Rs := runF 7 b__law_mix
theorem ok__law_mix {f : Addr} {fd : FuncData} (B : Blt mg) (F : Fun K "_law_mix" "_law_mix" s__law_mix f fd)  : FnOk P w K mg base CX0 1 f fd ["field", "rows", "shares", "wide"] (spD0 K 4 f__law_mix) := by
  refine ok_D0 (k := 0) (N := ["field", "rows", "shares", "wide", "found", "k", "j"]) F sc__law_mix fun cdv A outer s H E hr => ?_
  have hu := hr.units
  have nd := sc__law_mix.nd
  exact (ds_cons (ds_set 4 nd (de_op od_mul (de_lst (da_cons de_int da_nil)) (dl_e (de_v 3)))) (ds_cons (ds_for PassesOwn.never rfl (di_range1 (by rfl) B.range (da_cons (de_B cd_len (by rfl) B.len bt_len (da_cons (de_v 1) da_nil)) da_nil)) (dg_name 5 nd rfl (by first | exact Or.inl rfl | exact Or.inr rfl)) (ds_cons (ds_set 4 nd (de_f (df_comp (own := [("j", 6)]) rfl nd (di_range1 (by rfl) B.range (da_cons (de_v 3) da_nil)) (blkOk_by (by rfl)) (fun _ _ _ _ _ => (dg_name 6 nd rfl (by first | exact Or.inl rfl | exact Or.inr rfl))) (fun _ _ _ _ _ => dts_nil) (fun _ _ _ _ _ => (de_ix hu (de_ix hu (de_ix hu (de_v 0) de_int) (de_ix hu (de_v 4) (de_v 6))) (de_ix hu (de_ix hu (de_ix hu (de_v 0) de_int) (de_ix hu (de_v 2) (de_v 5))) (de_ix hu (de_ix hu (de_v 1) (de_v 5)) (de_v 6))))) (by decide)))) ds_nil)) (ds_cons (ds_ret (de_Ty cd_tuple (by rfl) B.tuple bt_tuple (da_cons (de_v 4) da_nil))) ds_nil)))
/-! ### _law_plain -/
abbrev s__law_plain : Stmt := topS 27
theorem sc__law_plain : FnScope ["field", "rows", "left", "found", "column", "ready", "lead", "back", "row", "k", "n", "j"] ["field", "rows"] (defScope s__law_plain) := ⟨rfl, rfl, rfl, by decide +kernel, rfl, by decide +kernel, by decide +kernel⟩
def b__law_plain : SM :=
  sSeq (sParK 2 3 (vO (eComp [8] (iA (eV 1)) (gN 8) (bYes) (eFz (eBF listD (aCons (eV 8) (aNil)))))) (vD (eLst (aNil)))) (sSeq (sFor (iR1 (aCons (eIf (bOf (eBin gtD (eBO lenD 2) (eC (.int 0)))) (eB lenD (aCons (eIxO 2 (eC (.int 0))) (aNil))) (eC (.int 0))) (aNil))) (gN 4) (sSeq (sDat 5 (eComp [9] (iR1 (aCons (eBO lenD 2) (aNil))) (gN 9) (bOf (eBin neD (eIx (eIxO 2 (eV 9)) (eV 4)) (eC (.int 0)))) (eV 9))) (sSeq (sIf (bOf (eBin gtD (eB lenD (aCons (eV 5) (aNil))) (eC (.int 0)))) (sSeq (sSet 6 (eMut 2 popAtD (aCons (eIx (eV 5) (eC (.int 0))) (aNil)))) (sSeq (sSet 7 (eIdx (eIx (eIx (eV 0) (eC (.int 1))) (eIx (eV 6) (eV 4))) (eC (.int 1)))) (sSeq (sSet 6 (eFz (eComp [10] (iA (eV 6)) (gN 10) (bYes) (eIx (eIx (eIx (eV 0) (eC (.int 1))) (eV 7)) (eV 10))))) (sSeq (sOwn 2 (eComp [8] (iA (eV 2)) (gN 8) (bYes) (eFz (eComp [11] (iR1 (aCons (eB lenD (aCons (eV 8) (aNil))) (aNil))) (gN 11) (bYes) (eIx (eIx (eIx (eV 0) (eC (.int 0))) (eIx (eV 8) (eV 11))) (eIx (eIx (eIx (eV 0) (eC (.int 1))) (eCall 2 (f__law_neg) (aCons (eV 0) (aCons (eIx (eV 8) (eV 4)) (aNil))))) (eIx (eV 6) (eV 11)))))))) (sSeq (sSet 3 (eBin addD (eFz (eComp [8] (iA (eV 3)) (gN 8) (bYes) (eFz (eComp [11] (iR1 (aCons (eB lenD (aCons (eV 8) (aNil))) (aNil))) (gN 11) (bYes) (eIx (eIx (eIx (eV 0) (eC (.int 0))) (eIx (eV 8) (eV 11))) (eIx (eIx (eIx (eV 0) (eC (.int 1))) (eCall 2 (f__law_neg) (aCons (eV 0) (aCons (eIx (eV 8) (eV 4)) (aNil))))) (eIx (eV 6) (eV 11)))))))) (eLst (aCons (eV 6) (aNil))))) (sNx)))))) (sNx)) (sNx)))) (sSeq (sRet (eB tupleD (aCons (eFz (eComp [8] (iA (eV 3)) (gN 8) (bYes) (eB tupleD (aCons (eV 8) (aNil))))) (aNil)))) (sNx)))
def f__law_plain : List D → Rs := runF 12 b__law_plain
theorem ok__law_plain {f : Addr} {fd : FuncData} (B : Blt mg) (F : Fun K "_law_plain" "_law_plain" s__law_plain f fd) (h__law_neg : Cal P w K mg base CX0 "_law_neg" ["field", "one"] 1 (spD0 K 2 (f__law_neg))) : FnOk P w K mg base CX0 2 f fd ["field", "rows"] (spD0 K 2 f__law_plain) := by
  refine ok_D0 (k := 1) (N := ["field", "rows", "left", "found", "column", "ready", "lead", "back", "row", "k", "n", "j"]) F sc__law_plain fun cdv A outer s H E hr => ?_
  have hu := hr.units
  have nd := sc__law_plain.nd
  exact (ds_cons (ds_asgK 2 3 rfl nd (dk_o (df_comp (own := [("row", 8)]) rfl nd (di_any (de_v 1)) (blkOk_by (by rfl)) (fun _ _ _ _ _ => (dg_name 8 nd rfl (by first | exact Or.inl rfl | exact Or.inr rfl))) (fun _ _ _ _ _ => dts_nil) (fun _ _ _ _ _ => (de_f (df_Ty cf_list (by rfl) B.list bt_list (da_cons (de_v 8) da_nil)))) (by decide))) (dk_d (de_lst da_nil))) (ds_cons (ds_for PassesOwn.never rfl (di_range1 (by rfl) B.range (da_cons (de_if (dt_cmp od_gt (de_BO 2 cd_len (by rfl) B.len bt_len) (dl_e de_int) (nomark _)) (de_B cd_len (by rfl) B.len bt_len (da_cons (de_ixO hu 2 de_int) da_nil)) de_int) da_nil)) (dg_name 4 nd rfl (by first | exact Or.inl rfl | exact Or.inr rfl)) (ds_cons (ds_datLc 5 (own := [("k", 9)]) rfl nd (di_range1 (by rfl) B.range (da_cons (de_BO 2 cd_len (by rfl) B.len bt_len) da_nil)) (blkOk_by (by rfl)) (fun _ _ _ _ _ => (dg_name 9 nd rfl (by first | exact Or.inl rfl | exact Or.inr rfl))) (fun _ _ _ _ _ => (dts_one (dt_cmp (od_ne hu) (de_ix hu (de_ixO hu 2 (de_v 9)) (de_v 4)) (dl_e de_int) (nomark _)))) (fun _ _ _ _ _ => (de_v 9)) (by decide) (sw_true rfl rfl rfl (by decide +kernel))) (ds_cons (ds_if (dt_cmp od_gt (de_B cd_len (by rfl) B.len bt_len (da_cons (de_v 5) da_nil)) (dl_e de_int) (nomark _)) (ds_cons (ds_set 6 nd (de_mut 2 md_popAt PySem.F.slot_list_pop PySem.F.type_list_pop (da_cons (de_ix hu (de_v 5) de_int) da_nil))) (ds_cons (ds_set 7 nd (de_index (de_ix hu (de_ix hu (de_v 0) de_int) (de_ix hu (de_v 6) (de_v 4))) de_int)) (ds_cons (ds_set 6 nd (de_f (df_comp (own := [("n", 10)]) rfl nd (di_any (de_v 6)) (blkOk_by (by rfl)) (fun _ _ _ _ _ => (dg_name 10 nd rfl (by first | exact Or.inl rfl | exact Or.inr rfl))) (fun _ _ _ _ _ => dts_nil) (fun _ _ _ _ _ => (de_ix hu (de_ix hu (de_ix hu (de_v 0) de_int) (de_v 7)) (de_v 10))) (by decide)))) (ds_cons (ds_own 2 nd (df_comp (own := [("row", 8)]) rfl nd (di_any (de_v 2)) (blkOk_by (by rfl)) (fun _ _ _ _ _ => (dg_name 8 nd rfl (by first | exact Or.inl rfl | exact Or.inr rfl))) (fun _ _ _ _ _ => dts_nil) (fun _ _ _ _ _ => (de_f (df_comp (own := [("j", 11)]) rfl nd (di_range1 (by rfl) B.range (da_cons (de_B cd_len (by rfl) B.len bt_len (da_cons (de_v 8) da_nil)) da_nil)) (blkOk_by (by rfl)) (fun _ _ _ _ _ => (dg_name 11 nd rfl (by first | exact Or.inl rfl | exact Or.inr rfl))) (fun _ _ _ _ _ => dts_nil) (fun _ _ _ _ _ => (de_ix hu (de_ix hu (de_ix hu (de_v 0) de_int) (de_ix hu (de_v 8) (de_v 11))) (de_ix hu (de_ix hu (de_ix hu (de_v 0) de_int) (de_fn h__law_neg (hr.mono (by decide)) (da_cons (de_v 0) (da_cons (de_ix hu (de_v 8) (de_v 4)) da_nil)))) (de_ix hu (de_v 6) (de_v 11))))) (by decide)))) (by decide))) (ds_cons (ds_set 3 nd (de_op od_add (de_f (df_comp (own := [("row", 8)]) rfl nd (di_any (de_v 3)) (blkOk_by (by rfl)) (fun _ _ _ _ _ => (dg_name 8 nd rfl (by first | exact Or.inl rfl | exact Or.inr rfl))) (fun _ _ _ _ _ => dts_nil) (fun _ _ _ _ _ => (de_f (df_comp (own := [("j", 11)]) rfl nd (di_range1 (by rfl) B.range (da_cons (de_B cd_len (by rfl) B.len bt_len (da_cons (de_v 8) da_nil)) da_nil)) (blkOk_by (by rfl)) (fun _ _ _ _ _ => (dg_name 11 nd rfl (by first | exact Or.inl rfl | exact Or.inr rfl))) (fun _ _ _ _ _ => dts_nil) (fun _ _ _ _ _ => (de_ix hu (de_ix hu (de_ix hu (de_v 0) de_int) (de_ix hu (de_v 8) (de_v 11))) (de_ix hu (de_ix hu (de_ix hu (de_v 0) de_int) (de_fn h__law_neg (hr.mono (by decide)) (da_cons (de_v 0) (da_cons (de_ix hu (de_v 8) (de_v 4)) da_nil)))) (de_ix hu (de_v 6) (de_v 11))))) (by decide)))) (by decide))) (dl_e (de_lst (da_cons (de_v 6) da_nil))))) ds_nil))))) ds_nil) ds_nil))) (ds_cons (ds_ret (de_Ty cd_tuple (by rfl) B.tuple bt_tuple (da_cons (de_f (df_comp (own := [("row", 8)]) rfl nd (di_any (de_v 3)) (blkOk_by (by rfl)) (fun _ _ _ _ _ => (dg_name 8 nd rfl (by first | exact Or.inl rfl | exact Or.inr rfl))) (fun _ _ _ _ _ => dts_nil) (fun _ _ _ _ _ => (de_Ty cd_tuple (by rfl) B.tuple bt_tuple (da_cons (de_v 8) da_nil))) (by decide))) da_nil))) ds_nil)))
/-! ### _law_words -/
abbrev s__law_words : Stmt := topS 28
theorem sc__law_words : FnScope ["size", "many", "found", "turn", "longer", "word", "n"] ["size", "many"] (defScope s__law_words) := ⟨rfl, rfl, rfl, by decide +kernel, rfl, by decide +kernel, by decide +kernel⟩
def b__law_words : SM :=
  sSeq (sSet 2 (eLst (aCons (eTup (aNil)) (aNil)))) (sSeq (sFor (iR1 (aCons (eV 1) (aNil))) (gN 3) (sSeq (sSet 4 (eLst (aNil))) (sSeq (sFor (iA (eV 2)) (gN 5) (sSeq (sSet 4 (eBin addD (eV 4) (eFz (eComp [6] (iR1 (aCons (eV 0) (aNil))) (gN 6) (bYes) (eBin addD (eV 5) (eTup (aCons (eV 6) (aNil)))))))) (sNx))) (sSeq (sSet 2 (eV 4)) (sNx))))) (sSeq (sRet (eV 2)) (sNx)))
def f__law_words : List D → Rs := runF 7 b__law_words
theorem ok__law_words {f : Addr} {fd : FuncData} (B : Blt mg) (F : Fun K "_law_words" "_law_words" s__law_words f fd)  : FnOk P w K mg base CX0 1 f fd ["size", "many"] (spD0 K 2 f__law_words) := by
  refine ok_D0 (k := 0) (N := ["size", "many", "found", "turn", "longer", "word", "n"]) F sc__law_words fun cdv A outer s H E hr => ?_
  have hu := hr.units
  have nd := sc__law_words.nd
  exact (ds_cons (ds_set 2 nd (de_lst (da_cons (de_tup da_nil) da_nil))) (ds_cons (ds_for PassesOwn.never rfl (di_range1 (by rfl) B.range (da_cons (de_v 1) da_nil)) (dg_name 3 nd rfl (by first | exact Or.inl rfl | exact Or.inr rfl)) (ds_cons (ds_set 4 nd (de_lst da_nil)) (ds_cons (ds_for PassesOwn.never rfl (di_any (de_v 2)) (dg_name 5 nd rfl (by first | exact Or.inl rfl | exact Or.inr rfl)) (ds_cons (ds_set 4 nd (de_op od_add (de_v 4) (dl_e (de_f (df_comp (own := [("n", 6)]) rfl nd (di_range1 (by rfl) B.range (da_cons (de_v 0) da_nil)) (blkOk_by (by rfl)) (fun _ _ _ _ _ => (dg_name 6 nd rfl (by first | exact Or.inl rfl | exact Or.inr rfl))) (fun _ _ _ _ _ => dts_nil) (fun _ _ _ _ _ => (de_op od_add (de_v 5) (dl_e (de_tup (da_cons (de_v 6) da_nil))))) (by decide)))))) ds_nil)) (ds_cons (ds_set 2 nd (de_v 4)) ds_nil)))) (ds_cons (ds_ret (de_v 2)) ds_nil)))
/-! ### _law_all -/
abbrev s__law_all : Stmt := topS 29
theorem sc__law_all : FnScope ["field", "code", "message"] ["field", "code"] (defScope s__law_all) := ⟨rfl, rfl, rfl, by decide +kernel, rfl, by decide +kernel, by decide +kernel⟩
def b__law_all : SM :=
  sSeq (sRet (eFz (eComp [2] (iA (eCall 2 (f__law_words) (aCons (eIx (eV 1) (eC (.int 1))) (aCons (eB lenD (aCons (eIx (eV 1) (eC (.int 3))) (aNil))) (aNil))))) (gN 2) (bYes) (eCall 4 (f__law_mix) (aCons (eV 0) (aCons (eIx (eV 1) (eC (.int 3))) (aCons (eV 2) (aCons (eIx (eV 1) (eC (.int 2))) (aNil))))))))) (sNx)
def f__law_all : List D → Rs := runF 3 b__law_all
theorem ok__law_all {f : Addr} {fd : FuncData} (B : Blt mg) (F : Fun K "_law_all" "_law_all" s__law_all f fd) (h__law_words : Cal P w K mg base CX0 "_law_words" ["size", "many"] 1 (spD0 K 2 (f__law_words))) (h__law_mix : Cal P w K mg base CX0 "_law_mix" ["field", "rows", "shares", "wide"] 1 (spD0 K 4 (f__law_mix))) : FnOk P w K mg base CX0 2 f fd ["field", "code"] (spD0 K 2 f__law_all) := by
  refine ok_D0 (k := 1) (N := ["field", "code", "message"]) F sc__law_all fun cdv A outer s H E hr => ?_
  have hu := hr.units
  have nd := sc__law_all.nd
  exact (ds_cons (ds_ret (de_f (df_comp (own := [("message", 2)]) rfl nd (di_any (de_fn h__law_words (hr.mono (by decide)) (da_cons (de_ix hu (de_v 1) de_int) (da_cons (de_B cd_len (by rfl) B.len bt_len (da_cons (de_ix hu (de_v 1) de_int) da_nil)) da_nil)))) (blkOk_by (by rfl)) (fun _ _ _ _ _ => (dg_name 2 nd rfl (by first | exact Or.inl rfl | exact Or.inr rfl))) (fun _ _ _ _ _ => dts_nil) (fun _ _ _ _ _ => (de_fn h__law_mix (hr.mono (by decide)) (da_cons (de_v 0) (da_cons (de_ix hu (de_v 1) de_int) (da_cons (de_v 2) (da_cons (de_ix hu (de_v 1) de_int) da_nil)))))) (by decide)))) ds_nil)
/-! ### _law_code -/
abbrev s__law_code : Stmt := topS 30
theorem sc__law_code : FnScope ["state", "sizes", "most", "limit", "size", "long", "field", "rows", "many", "turn", "k"] ["state", "sizes", "most", "limit"] (defScope s__law_code) := ⟨rfl, rfl, rfl, by decide +kernel, rfl, by decide +kernel, by decide +kernel⟩
def b__law_code : SM :=
  sSeq (sAsg (eTup (aCons (eCallW 0 2 f__law_pick (aCons (eV 1) (aNil))) (aCons (eBin addD (eC (.int 1)) (eCallW 0 2 f__law_take (aCons (eV 2) (aNil)))) (aNil)))) (gT (gsCons (gN 4) (gsCons (gN 5) (gsNil))) 2)) (sSeq (sParK3 6 7 8 (vD (eCall 1 (f__law_field) (aCons (eV 4) (aNil)))) (vO (eBind (aNil) fun ds => if small ds.length then eRet ds else fun _ => .bad)) (vD (eC (.int 1)))) (sSeq (sFor (iR1 (aCons (eCallW 0 2 f__law_take (aCons (eBin addD (eV 5) (eC (.int 1))) (aNil))) (aNil))) (gN 9) (sSeq (sSet 8 (eBin mulD (eV 8) (eV 4))) (sSeq (sIf (bOf (eBin leD (eV 8) (eV 3))) (sSeq (sExpr (eMut 7 appD (aCons (eB tupleD (aCons (eFz (eComp [10] (iR1 (aCons (eV 5) (aNil))) (gN 10) (bYes) (eCallW 0 2 f__law_take (aCons (eV 4) (aNil))))) (aNil))) (aNil)))) (sNx)) (sNx)) (sNx)))) (sSeq (sRet (eTup (aCons (eV 6) (aCons (eTup (aCons (eC (.str "code")) (aCons (eV 4) (aCons (eV 5) (aCons (eCall 2 (f__law_plain) (aCons (eV 6) (aCons (eV 7) (aNil)))) (aNil)))))) (aNil))))) (sNx))))
def f__law_code : Addr → Int → List Int → List D → Rw := runW 11 b__law_code
theorem ok__law_code {f : Addr} {fd : FuncData} (B : Blt mg) (F : Fun K "_law_code" "_law_code" s__law_code f fd) (h__law_plain : Cal P w K mg base CX0 "_law_plain" ["field", "rows"] 2 (spD0 K 2 (f__law_plain))) (h__law_take : Cal P w K mg base CX0 "_law_take" ["state", "most"] 1 (spW K 2 f__law_take)) (h__law_field : Cal P w K mg base CX0 "_law_field" ["size"] 2 (spD0 K 1 (f__law_field))) (h__law_pick : Cal P w K mg base CX0 "_law_pick" ["state", "row"] 2 (spW K 2 f__law_pick)) : FnOk P w K mg base CX0 3 f fd ["state", "sizes", "most", "limit"] (spW K 4 f__law_code) := by
  refine ok_W (k := 2) (N := ["state", "sizes", "most", "limit", "size", "long", "field", "rows", "many", "turn", "k"]) F sc__law_code (by decide) fun cdv A outer s H E hr => ?_
  have hu := hr.units
  have nd := sc__law_code.nd
  exact (ds_cons (ds_asg (de_tup (da_cons (de_fnW 0 h__law_pick (hr.mono (by decide)) (da_cons (de_v 1) da_nil)) (da_cons (de_op od_add de_int (dl_e (de_fnW 0 h__law_take (hr.mono (by decide)) (da_cons (de_v 2) da_nil)))) da_nil))) (dg_tup rfl (dgs_cons (dg_name 4 nd rfl (by first | exact Or.inl rfl | exact Or.inr rfl)) (dgs_cons (dg_name 5 nd rfl (by first | exact Or.inl rfl | exact Or.inr rfl)) dgs_nil)))) (ds_cons (ds_parK3 6 7 8 rfl nd (dk_d (de_fn h__law_field (hr.mono (by decide)) (da_cons (de_v 4) da_nil))) (dk_o (df_lst da_nil)) (dk_d de_int) (by decide) (by decide) (by decide)) (ds_cons (ds_for PassesOwn.never rfl (di_range1 (by rfl) B.range (da_cons (de_fnW 0 h__law_take (hr.mono (by decide)) (da_cons (de_op od_add (de_v 5) (dl_e de_int)) da_nil)) da_nil)) (dg_name 9 nd rfl (by first | exact Or.inl rfl | exact Or.inr rfl)) (ds_cons (ds_set 8 nd (de_op od_mul (de_v 8) (dl_e (de_v 4)))) (ds_cons (ds_if (dt_cmp od_le (de_v 8) (dl_e (de_v 3)) (nomark _)) (ds_cons (ds_expr (de_mut 7 md_append PySem.F.slot_list_append PySem.F.type_list_append (da_cons (de_Ty cd_tuple (by rfl) B.tuple bt_tuple (da_cons (de_f (df_comp (own := [("k", 10)]) rfl nd (di_range1 (by rfl) B.range (da_cons (de_v 5) da_nil)) (blkOk_by (by rfl)) (fun _ _ _ _ _ => (dg_name 10 nd rfl (by first | exact Or.inl rfl | exact Or.inr rfl))) (fun _ _ _ _ _ => dts_nil) (fun _ _ _ _ _ => (de_fnW 0 h__law_take (hr.mono (by decide)) (da_cons (de_v 4) da_nil))) (by decide))) da_nil)) da_nil))) ds_nil) ds_nil) ds_nil))) (ds_cons (ds_ret (de_tup (da_cons (de_v 6) (da_cons (de_tup (da_cons de_str (da_cons (de_v 4) (da_cons (de_v 5) (da_cons (de_fn h__law_plain (hr.mono (by decide)) (da_cons (de_v 6) (da_cons (de_v 7) da_nil))) da_nil))))) da_nil)))) ds_nil))))
/-! ### _law_dual -/
abbrev s__law_dual : Stmt := topS 31
theorem sc__law_dual : FnScope ["field", "code", "places", "found", "free", "row", "k"] ["field", "code"] (defScope s__law_dual) := ⟨rfl, rfl, rfl, by decide +kernel, rfl, by decide +kernel, by decide +kernel⟩
def b__law_dual : SM :=
  sSeq (sSet 2 (eFz (eComp [5] (iA (eIx (eV 1) (eC (.int 3)))) (gN 5) (bYes) (eIx (eFz (eComp [6] (iR1 (aCons (eIx (eV 1) (eC (.int 2))) (aNil))) (gN 6) (bOf (eBin neD (eIx (eV 5) (eV 6)) (eC (.int 0)))) (eV 6))) (eC (.int 0)))))) (sSeq (sOwn 3 (eBind (aNil) fun ds => if small ds.length then eRet ds else fun _ => .bad)) (sSeq (sFor (iA (eFz (eComp [6] (iR1 (aCons (eIx (eV 1) (eC (.int 2))) (aNil))) (gN 6) (bOf (eBin ninD (eV 6) (eV 2))) (eV 6)))) (gN 4) (sSeq (sOwn 5 (eBinF repF (eLst (aCons (eC (.int 0)) (aNil))) (eIx (eV 1) (eC (.int 2))))) (sSeq (sSetIx 5 (eC (.int 1)) (eV 4)) (sSeq (sFor (iR1 (aCons (eB lenD (aCons (eV 2) (aNil))) (aNil))) (gN 6) (sSeq (sSetIx 5 (eCall 2 (f__law_neg) (aCons (eV 0) (aCons (eIx (eIx (eIx (eV 1) (eC (.int 3))) (eV 6)) (eV 4)) (aNil)))) (eIx (eV 2) (eV 6))) (sNx))) (sSeq (sExpr (eMut 3 appD (aCons (eBO tupleD 5) (aNil)))) (sNx)))))) (sSeq (sRet (eTup (aCons (eC (.str "code")) (aCons (eIx (eV 1) (eC (.int 1))) (aCons (eIx (eV 1) (eC (.int 2))) (aCons (eCall 2 (f__law_plain) (aCons (eV 0) (aCons (eV 3) (aNil)))) (aNil))))))) (sNx))))
def f__law_dual : List D → Rs := runF 7 b__law_dual
theorem ok__law_dual {f : Addr} {fd : FuncData} (B : Blt mg) (F : Fun K "_law_dual" "_law_dual" s__law_dual f fd) (h__law_plain : Cal P w K mg base CX0 "_law_plain" ["field", "rows"] 2 (spD0 K 2 (f__law_plain))) (h__law_neg : Cal P w K mg base CX0 "_law_neg" ["field", "one"] 1 (spD0 K 2 (f__law_neg))) : FnOk P w K mg base CX0 3 f fd ["field", "code"] (spD0 K 2 f__law_dual) := by
  refine ok_D0 (k := 2) (N := ["field", "code", "places", "found", "free", "row", "k"]) F sc__law_dual fun cdv A outer s H E hr => ?_
  have hu := hr.units
  have nd := sc__law_dual.nd
  exact (ds_cons (ds_set 2 nd (de_f (df_comp (own := [("row", 5)]) rfl nd (di_any (de_ix hu (de_v 1) de_int)) (blkOk_by (by rfl)) (fun _ _ _ _ _ => (dg_name 5 nd rfl (by first | exact Or.inl rfl | exact Or.inr rfl))) (fun _ _ _ _ _ => dts_nil) (fun _ _ _ _ _ => (de_ix hu (de_f (df_comp (own := [("k", 6)]) rfl nd (di_range1 (by rfl) B.range (da_cons (de_ix hu (de_v 1) de_int) da_nil)) (blkOk_by (by rfl)) (fun _ _ _ _ _ => (dg_name 6 nd rfl (by first | exact Or.inl rfl | exact Or.inr rfl))) (fun _ _ _ _ _ => (dts_one (dt_cmp (od_ne hu) (de_ix hu (de_v 5) (de_v 6)) (dl_e de_int) (nomark _)))) (fun _ _ _ _ _ => (de_v 6)) (by decide))) de_int)) (by decide)))) (ds_cons (ds_own 3 nd (df_lst da_nil)) (ds_cons (ds_for PassesOwn.never rfl (di_any (de_f (df_comp (own := [("k", 6)]) rfl nd (di_range1 (by rfl) B.range (da_cons (de_ix hu (de_v 1) de_int) da_nil)) (blkOk_by (by rfl)) (fun _ _ _ _ _ => (dg_name 6 nd rfl (by first | exact Or.inl rfl | exact Or.inr rfl))) (fun _ _ _ _ _ => (dts_one (dt_cmp (od_nin hu) (de_v 6) (dl_e (de_v 2)) (by rfl)))) (fun _ _ _ _ _ => (de_v 6)) (by decide)))) (dg_name 4 nd rfl (by first | exact Or.inl rfl | exact Or.inr rfl)) (ds_cons (ds_own 5 nd (df_rep (de_lst (da_cons de_int da_nil)) (dl_e (de_ix hu (de_v 1) de_int)))) (ds_cons (ds_setIx hu 5 de_int (de_v 4)) (ds_cons (ds_for PassesOwn.never rfl (di_range1 (by rfl) B.range (da_cons (de_B cd_len (by rfl) B.len bt_len (da_cons (de_v 2) da_nil)) da_nil)) (dg_name 6 nd rfl (by first | exact Or.inl rfl | exact Or.inr rfl)) (ds_cons (ds_setIx hu 5 (de_fn h__law_neg (hr.mono (by decide)) (da_cons (de_v 0) (da_cons (de_ix hu (de_ix hu (de_ix hu (de_v 1) de_int) (de_v 6)) (de_v 4)) da_nil))) (de_ix hu (de_v 2) (de_v 6))) ds_nil)) (ds_cons (ds_expr (de_mut 3 md_append PySem.F.slot_list_append PySem.F.type_list_append (da_cons (de_TyO 5 cd_tuple (by rfl) B.tuple bt_tuple) da_nil))) ds_nil))))) (ds_cons (ds_ret (de_tup (da_cons de_str (da_cons (de_ix hu (de_v 1) de_int) (da_cons (de_ix hu (de_v 1) de_int) (da_cons (de_fn h__law_plain (hr.mono (by decide)) (da_cons (de_v 0) (da_cons (de_v 3) da_nil))) da_nil)))))) ds_nil))))
/-! ### _law_weight -/
abbrev s__law_weight : Stmt := topS 32
theorem sc__law_weight : FnScope ["word", "n"] ["word"] (defScope s__law_weight) := ⟨rfl, rfl, rfl, by decide +kernel, rfl, by decide +kernel, by decide +kernel⟩
def b__law_weight : SM :=
  sSeq (sRet (eB lenD (aCons (eFz (eComp [1] (iA (eV 0)) (gN 1) (bOf (eBin neD (eV 1) (eC (.int 0)))) (eV 1))) (aNil)))) (sNx)
def f__law_weight : List D → Rs := runF 2 b__law_weight
theorem ok__law_weight {f : Addr} {fd : FuncData} (B : Blt mg) (F : Fun K "_law_weight" "_law_weight" s__law_weight f fd)  : FnOk P w K mg base CX0 1 f fd ["word"] (spD0 K 1 f__law_weight) := by
  refine ok_D0 (k := 0) (N := ["word", "n"]) F sc__law_weight fun cdv A outer s H E hr => ?_
  have hu := hr.units
  have nd := sc__law_weight.nd
  exact (ds_cons (ds_ret (de_B cd_len (by rfl) B.len bt_len (da_cons (de_f (df_comp (own := [("n", 1)]) rfl nd (di_any (de_v 0)) (blkOk_by (by rfl)) (fun _ _ _ _ _ => (dg_name 1 nd rfl (by first | exact Or.inl rfl | exact Or.inr rfl))) (fun _ _ _ _ _ => (dts_one (dt_cmp (od_ne hu) (de_v 1) (dl_e de_int) (nomark _)))) (fun _ _ _ _ _ => (de_v 1)) (by decide))) da_nil))) ds_nil)
/-! ### _law_far -/
abbrev s__law_far : Stmt := topS 33
theorem sc__law_far : FnScope ["one", "other", "k"] ["one", "other"] (defScope s__law_far) := ⟨rfl, rfl, rfl, by decide +kernel, rfl, by decide +kernel, by decide +kernel⟩
def b__law_far : SM :=
  sSeq (sRet (eB lenD (aCons (eFz (eComp [2] (iR1 (aCons (eB lenD (aCons (eV 0) (aNil))) (aNil))) (gN 2) (bOf (eBin neD (eIx (eV 0) (eV 2)) (eIx (eV 1) (eV 2)))) (eV 2))) (aNil)))) (sNx)
def f__law_far : List D → Rs := runF 3 b__law_far
theorem ok__law_far {f : Addr} {fd : FuncData} (B : Blt mg) (F : Fun K "_law_far" "_law_far" s__law_far f fd)  : FnOk P w K mg base CX0 1 f fd ["one", "other"] (spD0 K 2 f__law_far) := by
  refine ok_D0 (k := 0) (N := ["one", "other", "k"]) F sc__law_far fun cdv A outer s H E hr => ?_
  have hu := hr.units
  have nd := sc__law_far.nd
  exact (ds_cons (ds_ret (de_B cd_len (by rfl) B.len bt_len (da_cons (de_f (df_comp (own := [("k", 2)]) rfl nd (di_range1 (by rfl) B.range (da_cons (de_B cd_len (by rfl) B.len bt_len (da_cons (de_v 0) da_nil)) da_nil)) (blkOk_by (by rfl)) (fun _ _ _ _ _ => (dg_name 2 nd rfl (by first | exact Or.inl rfl | exact Or.inr rfl))) (fun _ _ _ _ _ => (dts_one (dt_cmp (od_ne hu) (de_ix hu (de_v 0) (de_v 2)) (dl_e (de_ix hu (de_v 1) (de_v 2))) (nomark _)))) (fun _ _ _ _ _ => (de_v 2)) (by decide))) da_nil))) ds_nil)
/-! ### _law_choose -/
abbrev s__law_choose : Stmt := topS 34
theorem sc__law_choose : FnScope ["many", "few", "row", "turn", "k"] ["many", "few"] (defScope s__law_choose) := ⟨rfl, rfl, rfl, by decide +kernel, rfl, by decide +kernel, by decide +kernel⟩
def b__law_choose : SM :=
  sSeq (sSet 2 (eLst (aCons (eC (.int 1)) (aNil)))) (sSeq (sFor (iR1 (aCons (eV 0) (aNil))) (gN 3) (sSeq (sSet 2 (eBin addD (eBin addD (eLst (aCons (eC (.int 1)) (aNil))) (eFz (eComp [4] (iR1 (aCons (eBin subD (eB lenD (aCons (eV 2) (aNil))) (eC (.int 1))) (aNil))) (gN 4) (bYes) (eBin addD (eIx (eV 2) (eV 4)) (eIx (eV 2) (eBin addD (eV 4) (eC (.int 1)))))))) (eLst (aCons (eC (.int 1)) (aNil))))) (sNx))) (sSeq (sRet (eIf (bOf (eBin leD (eV 1) (eV 0))) (eIx (eV 2) (eV 1)) (eC (.int 0)))) (sNx)))
def f__law_choose : List D → Rs := runF 5 b__law_choose
theorem ok__law_choose {f : Addr} {fd : FuncData} (B : Blt mg) (F : Fun K "_law_choose" "_law_choose" s__law_choose f fd)  : FnOk P w K mg base CX0 1 f fd ["many", "few"] (spD0 K 2 f__law_choose) := by
  refine ok_D0 (k := 0) (N := ["many", "few", "row", "turn", "k"]) F sc__law_choose fun cdv A outer s H E hr => ?_
  have hu := hr.units
  have nd := sc__law_choose.nd
  exact (ds_cons (ds_set 2 nd (de_lst (da_cons de_int da_nil))) (ds_cons (ds_for PassesOwn.never rfl (di_range1 (by rfl) B.range (da_cons (de_v 0) da_nil)) (dg_name 3 nd rfl (by first | exact Or.inl rfl | exact Or.inr rfl)) (ds_cons (ds_set 2 nd (de_op od_add (de_op od_add (de_lst (da_cons de_int da_nil)) (dl_e (de_f (df_comp (own := [("k", 4)]) rfl nd (di_range1 (by rfl) B.range (da_cons (de_op od_sub (de_B cd_len (by rfl) B.len bt_len (da_cons (de_v 2) da_nil)) (dl_e de_int)) da_nil)) (blkOk_by (by rfl)) (fun _ _ _ _ _ => (dg_name 4 nd rfl (by first | exact Or.inl rfl | exact Or.inr rfl))) (fun _ _ _ _ _ => dts_nil) (fun _ _ _ _ _ => (de_op od_add (de_ix hu (de_v 2) (de_v 4)) (dl_e (de_ix hu (de_v 2) (de_op od_add (de_v 4) (dl_e de_int)))))) (by decide))))) (dl_e (de_lst (da_cons de_int da_nil))))) ds_nil)) (ds_cons (ds_ret (de_if (dt_cmp od_le (de_v 1) (dl_e (de_v 0)) (nomark _)) (de_ix hu (de_v 2) (de_v 1)) de_int)) ds_nil)))
/-! ### _law_power -/
abbrev s__law_power : Stmt := topS 35
theorem sc__law_power : FnScope ["one", "many", "found", "turn"] ["one", "many"] (defScope s__law_power) := ⟨rfl, rfl, rfl, by decide +kernel, rfl, by decide +kernel, by decide +kernel⟩
def b__law_power : SM :=
  sSeq (sSet 2 (eC (.int 1))) (sSeq (sFor (iR1 (aCons (eV 1) (aNil))) (gN 3) (sSeq (sSet 2 (eBin mulD (eV 2) (eV 0))) (sNx))) (sSeq (sRet (eV 2)) (sNx)))
def f__law_power : List D → Rs := runF 4 b__law_power
theorem ok__law_power {f : Addr} {fd : FuncData} (B : Blt mg) (F : Fun K "_law_power" "_law_power" s__law_power f fd)  : FnOk P w K mg base CX0 1 f fd ["one", "many"] (spD0 K 2 f__law_power) := by
  refine ok_D0 (k := 0) (N := ["one", "many", "found", "turn"]) F sc__law_power fun cdv A outer s H E hr => ?_
  have hu := hr.units
  have nd := sc__law_power.nd
  exact (ds_cons (ds_set 2 nd de_int) (ds_cons (ds_for PassesOwn.never rfl (di_range1 (by rfl) B.range (da_cons (de_v 1) da_nil)) (dg_name 3 nd rfl (by first | exact Or.inl rfl | exact Or.inr rfl)) (ds_cons (ds_set 2 nd (de_op od_mul (de_v 2) (dl_e (de_v 0)))) ds_nil)) (ds_cons (ds_ret (de_v 2)) ds_nil)))
/-! ### _law_ball -/
abbrev s__law_ball : Stmt := topS 36
theorem sc__law_ball : FnScope ["long", "size", "number", "k"] ["long", "size", "number"] (defScope s__law_ball) := ⟨rfl, rfl, rfl, by decide +kernel, rfl, by decide +kernel, by decide +kernel⟩
def b__law_ball : SM :=
  sSeq (sRet (eB sumD (aCons (eFz (eComp [3] (iR1 (aCons (eBin addD (eV 2) (eC (.int 1))) (aNil))) (gN 3) (bYes) (eBin mulD (eCall 2 (f__law_choose) (aCons (eV 0) (aCons (eV 3) (aNil)))) (eCall 2 (f__law_power) (aCons (eBin subD (eV 1) (eC (.int 1))) (aCons (eV 3) (aNil))))))) (aNil)))) (sNx)
def f__law_ball : List D → Rs := runF 4 b__law_ball
theorem ok__law_ball {f : Addr} {fd : FuncData} (B : Blt mg) (F : Fun K "_law_ball" "_law_ball" s__law_ball f fd) (h__law_choose : Cal P w K mg base CX0 "_law_choose" ["many", "few"] 1 (spD0 K 2 (f__law_choose))) (h__law_power : Cal P w K mg base CX0 "_law_power" ["one", "many"] 1 (spD0 K 2 (f__law_power))) : FnOk P w K mg base CX0 2 f fd ["long", "size", "number"] (spD0 K 3 f__law_ball) := by
  refine ok_D0 (k := 1) (N := ["long", "size", "number", "k"]) F sc__law_ball fun cdv A outer s H E hr => ?_
  have hu := hr.units
  have nd := sc__law_ball.nd
  exact (ds_cons (ds_ret (de_B (cd_sum rfl) (by rfl) B.sum bt_sum (da_cons (de_f (df_comp (own := [("k", 3)]) rfl nd (di_range1 (by rfl) B.range (da_cons (de_op od_add (de_v 2) (dl_e de_int)) da_nil)) (blkOk_by (by rfl)) (fun _ _ _ _ _ => (dg_name 3 nd rfl (by first | exact Or.inl rfl | exact Or.inr rfl))) (fun _ _ _ _ _ => dts_nil) (fun _ _ _ _ _ => (de_op od_mul (de_fn h__law_choose (hr.mono (by decide)) (da_cons (de_v 0) (da_cons (de_v 3) da_nil))) (dl_e (de_fn h__law_power (hr.mono (by decide)) (da_cons (de_op od_sub (de_v 1) (dl_e de_int)) (da_cons (de_v 3) da_nil)))))) (by decide))) da_nil))) ds_nil)
/-! ### _law_sums -/
abbrev s__law_sums : Stmt := topS 37
theorem sc__law_sums : FnScope ["long", "size", "least", "extra"] ["long", "size", "least"] (defScope s__law_sums) := ⟨rfl, rfl, rfl, by decide +kernel, rfl, by decide +kernel, by decide +kernel⟩
def b__law_sums : SM :=
  sSeq (sSet 3 (eBin subD (eBin mulD (eV 1) (eV 2)) (eBin mulD (eBin subD (eV 1) (eC (.int 1))) (eV 0)))) (sSeq (sRet (eIf (bOf (eBin gtD (eV 3) (eC (.int 0)))) (eBin fdivD (eBin mulD (eV 1) (eV 2)) (eV 3)) (eC .none))) (sNx))
def f__law_sums : List D → Rs := runF 4 b__law_sums
theorem ok__law_sums {f : Addr} {fd : FuncData} (B : Blt mg) (F : Fun K "_law_sums" "_law_sums" s__law_sums f fd)  : FnOk P w K mg base CX0 1 f fd ["long", "size", "least"] (spD0 K 3 f__law_sums) := by
  refine ok_D0 (k := 0) (N := ["long", "size", "least", "extra"]) F sc__law_sums fun cdv A outer s H E hr => ?_
  have hu := hr.units
  have nd := sc__law_sums.nd
  exact (ds_cons (ds_set 3 nd (de_op od_sub (de_op od_mul (de_v 1) (dl_e (de_v 2))) (dl_e (de_op od_mul (de_op od_sub (de_v 1) (dl_e de_int)) (dl_e (de_v 0)))))) (ds_cons (ds_ret (de_if (dt_cmp od_gt (de_v 3) (dl_e de_int) (nomark _)) (de_op od_fdiv (de_op od_mul (de_v 1) (dl_e (de_v 2))) (dl_e (de_v 3))) de_non)) ds_nil))
/-! ### _law_keeps -/
abbrev s__law_keeps : Stmt := topS 38
theorem sc__law_keeps : FnScope ["long", "size", "least", "many", "told", "n"] ["long", "size", "least", "many"] (defScope s__law_keeps) := ⟨rfl, rfl, rfl, by decide +kernel, rfl, by decide +kernel, by decide +kernel⟩
def b__law_keeps : SM :=
  sSeq (sSet 4 (eLst (aCons (eBin fdivD (eCall 2 (f__law_power) (aCons (eV 1) (aCons (eV 0) (aNil)))) (eCall 3 (f__law_ball) (aCons (eV 0) (aCons (eV 1) (aCons (eBin fdivD (eBin subD (eV 2) (eC (.int 1))) (eC (.int 2))) (aNil)))))) (aCons (eCall 2 (f__law_power) (aCons (eV 1) (aCons (eBin addD (eBin subD (eV 0) (eV 2)) (eC (.int 1))) (aNil)))) (aCons (eCall 3 (f__law_sums) (aCons (eV 0) (aCons (eV 1) (aCons (eV 2) (aNil))))) (aNil)))))) (sSeq (sRet (eBin eqD (eB lenD (aCons (eFz (eComp [5] (iA (eV 4)) (gN 5) (bAnd (bOf (eBin isntD (eV 5) (eC .none))) (bOf (eBin gtD (eV 3) (eV 5)))) (eV 5))) (aNil))) (eC (.int 0)))) (sNx))
def f__law_keeps : List D → Rs := runF 6 b__law_keeps
theorem ok__law_keeps {f : Addr} {fd : FuncData} (B : Blt mg) (F : Fun K "_law_keeps" "_law_keeps" s__law_keeps f fd) (h__law_sums : Cal P w K mg base CX0 "_law_sums" ["long", "size", "least"] 1 (spD0 K 3 (f__law_sums))) (h__law_power : Cal P w K mg base CX0 "_law_power" ["one", "many"] 1 (spD0 K 2 (f__law_power))) (h__law_ball : Cal P w K mg base CX0 "_law_ball" ["long", "size", "number"] 2 (spD0 K 3 (f__law_ball))) : FnOk P w K mg base CX0 3 f fd ["long", "size", "least", "many"] (spD0 K 4 f__law_keeps) := by
  refine ok_D0 (k := 2) (N := ["long", "size", "least", "many", "told", "n"]) F sc__law_keeps fun cdv A outer s H E hr => ?_
  have hu := hr.units
  have nd := sc__law_keeps.nd
  exact (ds_cons (ds_set 4 nd (de_lst (da_cons (de_op od_fdiv (de_fn h__law_power (hr.mono (by decide)) (da_cons (de_v 1) (da_cons (de_v 0) da_nil))) (dl_e (de_fn h__law_ball (hr.mono (by decide)) (da_cons (de_v 0) (da_cons (de_v 1) (da_cons (de_op od_fdiv (de_op od_sub (de_v 2) (dl_e de_int)) (dl_e de_int)) da_nil)))))) (da_cons (de_fn h__law_power (hr.mono (by decide)) (da_cons (de_v 1) (da_cons (de_op od_add (de_op od_sub (de_v 0) (dl_e (de_v 2))) (dl_e de_int)) da_nil))) (da_cons (de_fn h__law_sums (hr.mono (by decide)) (da_cons (de_v 0) (da_cons (de_v 1) (da_cons (de_v 2) da_nil)))) da_nil))))) (ds_cons (ds_ret (de_cmp (od_eq hu) (de_B cd_len (by rfl) B.len bt_len (da_cons (de_f (df_comp (own := [("n", 5)]) rfl nd (di_any (de_v 4)) (blkOk_by (by rfl)) (fun _ _ _ _ _ => (dg_name 5 nd rfl (by first | exact Or.inl rfl | exact Or.inr rfl))) (fun _ _ _ _ _ => (dts_one (dt_w (dw_and (dt_cmp od_isnt (de_v 5) (dl_e de_non) (nomark _)) (dw_and1 (dt_cmp od_gt (de_v 3) (dl_e (de_v 5)) (nomark _))))))) (fun _ _ _ _ _ => (de_v 5)) (by decide))) da_nil)) (dl_e de_int) (nomark _))) ds_nil))
/-! ### law -/
abbrev s_law : Stmt := topS 39
theorem sc_law : FnScope ["script", "state", "size", "long", "least", "told", "spheres", "number", "many", "rows", "due", "now", "turn", "inner", "checks", "short", "far", "small", "words", "word", "field", "code", "every", "best", "e", "k", "other"] ["script"] (defScope s_law) := ⟨rfl, rfl, rfl, by decide +kernel, rfl, by decide +kernel, by decide +kernel⟩
def b_law : SM :=
  sSeq (sAsg (eTup (aCons (eCallW 1 2 f__law_pick (aCons (eLst (aCons (eC (.int 2)) (aCons (eC (.int 2)) (aCons (eC (.int 3)) (aCons (eC (.int 4)) (aCons (eC (.int 5)) (aNil))))))) (aNil))) (aCons (eBin addD (eC (.int 1)) (eCallW 1 2 f__law_take (aCons (eC (.int 12)) (aNil)))) (aNil)))) (gT (gsCons (gN 2) (gsCons (gN 3) (gsNil))) 2)) (sSeq (sSet 4 (eBin addD (eC (.int 1)) (eCallW 1 2 f__law_take (aCons (eV 3) (aNil))))) (sSeq (sSet 5 (eCall 3 (f_all_bounds) (aCons (eV 3) (aCons (eV 2) (aCons (eV 4) (aNil)))))) (sSeq (sSet 6 (eBin fdivD (eCall 2 (f__law_power) (aCons (eV 2) (aCons (eV 3) (aNil)))) (eCall 3 (f__law_ball) (aCons (eV 3) (aCons (eV 2) (aCons (eBin fdivD (eBin subD (eV 4) (eC (.int 1))) (eC (.int 2))) (aNil))))))) (sSeq (sIf (bOr (bOf (eBin neD (eCall 3 (f_by_spheres) (aCons (eV 3) (aCons (eV 2) (aCons (eV 4) (aNil))))) (eV 6))) (bOr (bOf (eBin neD (eCall 3 (f_by_places) (aCons (eV 3) (aCons (eV 2) (aCons (eV 4) (aNil))))) (eCall 2 (f__law_power) (aCons (eV 2) (aCons (eBin addD (eBin subD (eV 3) (eV 4)) (eC (.int 1))) (aNil)))))) (bOf (eBin neD (eCall 3 (f_by_sums) (aCons (eV 3) (aCons (eV 2) (aCons (eV 4) (aNil))))) (eCall 3 (f__law_sums) (aCons (eV 3) (aCons (eV 2) (aCons (eV 4) (aNil))))))))) (sSeq (sRet (eC (.bool false))) (sNx)) (sNx)) (sSeq (sIf (bOf (eBin neX (eV 5) (eFzM false (eDisp false [(eC (.str "spheres"), eV 6), (eC (.str "places"), eCall 2 (f__law_power) (aCons (eV 2) (aCons (eBin addD (eBin subD (eV 3) (eV 4)) (eC (.int 1))) (aNil)))), (eC (.str "sums"), eCall 3 (f__law_sums) (aCons (eV 3) (aCons (eV 2) (aCons (eV 4) (aNil)))))])))) (sSeq (sRet (eC (.bool false))) (sNx)) (sNx)) (sSeq (sSet 7 (eCallW 1 2 f__law_take (aCons (eBin addD (eV 3) (eC (.int 1))) (aNil)))) (sSeq (sIf (bOf (eBin neD (eCall 3 (f_ball) (aCons (eV 3) (aCons (eV 2) (aCons (eV 7) (aNil))))) (eCall 3 (f__law_ball) (aCons (eV 3) (aCons (eV 2) (aCons (eV 7) (aNil))))))) (sSeq (sRet (eC (.bool false))) (sNx)) (sNx)) (sSeq (sSet 8 (eCallW 1 2 f__law_pick (aCons (eLst (aCons (eC (.int 1)) (aCons (eC (.int 2)) (aCons (eV 6) (aCons (eBin addD (eV 6) (eC (.int 1))) (aCons (eCall 2 (f__law_power) (aCons (eV 2) (aCons (eBin addD (eBin subD (eV 3) (eV 4)) (eC (.int 1))) (aNil)))) (aCons (eBin addD (eCall 2 (f__law_power) (aCons (eV 2) (aCons (eBin addD (eBin subD (eV 3) (eV 4)) (eC (.int 1))) (aNil)))) (eC (.int 1))) (aCons (eCallW 1 2 f__law_take (aCons (eC (.int 300)) (aNil))) (aNil))))))))) (aNil)))) (sSeq (sIf (bOf (eBin neD (eCall 4 (f_fits_bounds) (aCons (eV 3) (aCons (eV 2) (aCons (eV 4) (aCons (eV 8) (aNil)))))) (eCall 4 (f__law_keeps) (aCons (eV 3) (aCons (eV 2) (aCons (eV 4) (aCons (eV 8) (aNil)))))))) (sSeq (sRet (eC (.bool false))) (sNx)) (sNx)) (sSeq (sPar3 9 10 11 (aCons (eBin addD (eC (.int 1)) (eCallW 1 2 f__law_take (aCons (eC (.int 5)) (aNil)))) (aCons (eC (.int 0)) (aCons (eC (.int 1)) (aNil))))) (sSeq (sFor (iR1 (aCons (eV 9) (aNil))) (gN 12) (sSeq (sPar 10 11 (aCons (eBin addD (eBin addD (eV 10) (eBin fdivD (eV 4) (eV 11))) (eIf (bOf (eBin gtD (eBin modD (eB intD (aCons (eV 4) (aNil))) (eV 11)) (eC (.int 0)))) (eC (.int 1)) (eC (.int 0)))) (aCons (eBin mulD (eV 11) (eV 2)) (aNil)))) (sNx))) (sSeq (sIf (bOf (eBin neD (eCall 3 (f_shortest) (aCons (eV 2) (aCons (eV 9) (aCons (eV 4) (aNil))))) (eV 10))) (sSeq (sRet (eC (.bool false))) (sNx)) (sNx)) (sSeq (sSet 13 (eCall 3 (f__law_ball) (aCons (eV 3) (aCons (eV 2) (aCons (eBin subD (eV 4) (eC (.int 1))) (aNil)))))) (sSeq (sIf (bOf (eBin neD (eCall 3 (f_surely) (aCons (eV 3) (aCons (eV 2) (aCons (eV 4) (aNil))))) (eBin addD (eBin fdivD (eCall 2 (f__law_power) (aCons (eV 2) (aCons (eV 3) (aNil)))) (eV 13)) (eIf (bOf (eBin gtD (eBin modD (eB intD (aCons (eCall 2 (f__law_power) (aCons (eV 2) (aCons (eV 3) (aNil)))) (aNil))) (eV 13)) (eC (.int 0)))) (eC (.int 1)) (eC (.int 0)))))) (sSeq (sRet (eC (.bool false))) (sNx)) (sNx)) (sSeq (sSet 14 (eC (.int 0))) (sSeq (sFor (iR1 (aCons (eV 3) (aNil))) (gN 12) (sSeq (sSet 5 (eB sumD (aCons (eFz (eComp [25] (iR1 (aCons (eBin subD (eV 4) (eC (.int 1))) (aNil))) (gN 25) (bYes) (eBin mulD (eCall 2 (f__law_choose) (aCons (eBin subD (eV 3) (eC (.int 1))) (aCons (eV 25) (aNil)))) (eCall 2 (f__law_power) (aCons (eBin subD (eV 2) (eC (.int 1))) (aCons (eV 25) (aNil))))))) (aNil)))) (sSeq (sSet 14 (eIf (bAnd (bOf (eBin geD (eV 5) (eCall 2 (f__law_power) (aCons (eV 2) (aCons (eV 14) (aNil)))))) (bAnd (bOf (eBin gtD (eV 4) (eC (.int 1)))) (bOf (eBin eqD (eV 14) (eV 12))))) (eBin addD (eV 14) (eC (.int 1))) (eV 14))) (sNx)))) (sSeq (sIf (bOf (eBin neD (eCall 3 (f_surely_rows) (aCons (eV 3) (aCons (eV 2) (aCons (eV 4) (aNil))))) (eBin subD (eV 3) (eV 14)))) (sSeq (sRet (eC (.bool false))) (sNx)) (sNx)) (sSeq (sAsg (eTup (aCons (eBin addD (eC (.int 1)) (eCallW 1 2 f__law_take (aCons (eC (.int 6)) (aNil)))) (aCons (eBin addD (eC (.int 1)) (eCallW 1 2 f__law_take (aCons (eC (.int 4)) (aNil)))) (aNil)))) (gT (gsCons (gN 15) (gsCons (gN 16) (gsNil))) 2)) (sSeq (sSet 17 (eCallW 1 2 f__law_pick (aCons (eLst (aCons (eC (.int 2)) (aCons (eC (.int 3)) (aNil)))) (aNil)))) (sSeq (sIf (bAnd (bOf (eBin leD (eV 16) (eV 15))) (bOf (eBin ltD (eCall 2 (f__law_power) (aCons (eV 17) (aCons (eV 15) (aNil)))) (eC (.int 300))))) (sSeq (sOwn 18 (eBind (aNil) fun ds => if small ds.length then eRet ds else fun _ => .bad)) (sSeq (sFor (iA (eCall 2 (f__law_words) (aCons (eV 17) (aCons (eV 15) (aNil))))) (gN 19) (sSeq (sIf (bOf (eBin eqD (eB lenD (aCons (eFz (eCompO [26] 18 (gN 26) (bOf (eBin ltD (eCall 2 (f__law_far) (aCons (eV 19) (aCons (eV 26) (aNil)))) (eV 16))) (eV 26))) (aNil))) (eC (.int 0)))) (sSeq (sExpr (eMut 18 appD (aCons (eV 19) (aNil)))) (sNx)) (sNx)) (sNx))) (sSeq (sIf (bOr (bOf (eBin neD (eCallX 3 (f_greedy) (aCons (eV 17) (aCons (eV 15) (aCons (eV 16) (aNil))))) (eVO 18))) (bOr (bNot (bOf (eCall 4 (f__law_keeps) (aCons (eV 15) (aCons (eV 17) (aCons (eV 16) (aCons (eBO lenD 18) (aNil)))))))) (bOf (eBin ltD (eBO lenD 18) (eCall 3 (f_surely) (aCons (eV 15) (aCons (eV 17) (aCons (eV 16) (aNil))))))))) (sSeq (sRet (eC (.bool false))) (sNx)) (sNx)) (sNx)))) (sNx)) (sSeq (sAsg (eCallW 1 4 f__law_code (aCons (eLst (aCons (eC (.int 2)) (aCons (eC (.int 3)) (aCons (eC (.int 4)) (aNil))))) (aCons (eC (.int 8)) (aCons (eC (.int 260)) (aNil))))) (gT (gsCons (gN 20) (gsCons (gN 21) (gsNil))) 2)) (sSeq (sDat 22 (eComp [19] (iA (eCall 2 (f__law_all) (aCons (eV 20) (aCons (eV 21) (aNil))))) (gN 19) (bOf (eBin gtD (eCall 1 (f__law_weight) (aCons (eV 19) (aNil))) (eC (.int 0)))) (eV 19))) (sSeq (sIf (bOf (eBin gtD (eB lenD (aCons (eV 22) (aNil))) (eC (.int 0)))) (sSeq (sSet 23 (eB minD (aCons (eFz (eComp [19] (iA (eV 22)) (gN 19) (bYes) (eCall 1 (f__law_weight) (aCons (eV 19) (aNil))))) (aNil)))) (sSeq (sIf (bOr (bOf (eBin isntD (eCall 4 (f_fits_bounds) (aCons (eIx (eV 21) (eC (.int 2))) (aCons (eIx (eV 21) (eC (.int 1))) (aCons (eV 23) (aCons (eBin addD (eB lenD (aCons (eV 22) (aNil))) (eC (.int 1))) (aNil)))))) (eC (.bool true)))) (bOf (eBin gtD (eCall 3 (f_shortest) (aCons (eIx (eV 21) (eC (.int 1))) (aCons (eB lenD (aCons (eIx (eV 21) (eC (.int 3))) (aNil))) (aCons (eV 23) (aNil))))) (eIx (eV 21) (eC (.int 2)))))) (sSeq (sRet (eC (.bool false))) (sNx)) (sNx)) (sNx))) (sNx)) (sSeq (sTry "Great" 24 (sSeq (sExpr (eCallX 3 (f_greedy) (aCons (eC (.int 2)) (aCons (eC (.int 13)) (aCons (eC (.int 3)) (aNil)))))) (sSeq (sRet (eC (.bool false))) (sNx))) (gCmp "limit" "words")) (sNx)))))))))))))))))))))))))
theorem ok_law {f : Addr} {fd : FuncData} (B : Blt mg) (F : Fun K "law" "law" s_law f fd) (h__law_state : Cal P w K mg base CX0 "_law_state" ["script"] 1 (spSt K)) (h_greedy : Cal P w K mg base (L2.CX P w) "greedy" ["size", "long", "least"] 3 (spDX K mg 3 f_greedy)) (x_Great : ExC P w K mg base "Great" "limit") (h_shortest : Cal P w K mg base CX0 "shortest" ["size", "rows", "least"] 1 (spD0 K 3 (f_shortest))) (h_fits_bounds : Cal P w K mg base CX0 "fits_bounds" ["long", "size", "least", "many"] 5 (spD0 K 4 (f_fits_bounds))) (h__law_weight : Cal P w K mg base CX0 "_law_weight" ["word"] 1 (spD0 K 1 (f__law_weight))) (h__law_all : Cal P w K mg base CX0 "_law_all" ["field", "code"] 2 (spD0 K 2 (f__law_all))) (h__law_code : Cal P w K mg base CX0 "_law_code" ["state", "sizes", "most", "limit"] 3 (spW K 4 f__law_code)) (h__law_power : Cal P w K mg base CX0 "_law_power" ["one", "many"] 1 (spD0 K 2 (f__law_power))) (h_surely : Cal P w K mg base CX0 "surely" ["long", "size", "least"] 3 (spD0 K 3 (f_surely))) (h__law_keeps : Cal P w K mg base CX0 "_law_keeps" ["long", "size", "least", "many"] 3 (spD0 K 4 (f__law_keeps))) (h__law_words : Cal P w K mg base CX0 "_law_words" ["size", "many"] 1 (spD0 K 2 (f__law_words))) (h__law_far : Cal P w K mg base CX0 "_law_far" ["one", "other"] 1 (spD0 K 2 (f__law_far))) (h__law_pick : Cal P w K mg base CX0 "_law_pick" ["state", "row"] 2 (spW K 2 f__law_pick)) (h__law_take : Cal P w K mg base CX0 "_law_take" ["state", "most"] 1 (spW K 2 f__law_take)) (h_surely_rows : Cal P w K mg base CX0 "surely_rows" ["long", "size", "least"] 2 (spD0 K 3 (f_surely_rows))) (h__law_choose : Cal P w K mg base CX0 "_law_choose" ["many", "few"] 1 (spD0 K 2 (f__law_choose))) (h__law_ball : Cal P w K mg base CX0 "_law_ball" ["long", "size", "number"] 2 (spD0 K 3 (f__law_ball))) (h_ball : Cal P w K mg base CX0 "ball" ["long", "size", "number"] 2 (spD0 K 3 (f_ball))) (h__law_sums : Cal P w K mg base CX0 "_law_sums" ["long", "size", "least"] 1 (spD0 K 3 (f__law_sums))) (h_by_sums : Cal P w K mg base CX0 "by_sums" ["long", "size", "least"] 1 (spD0 K 3 (f_by_sums))) (h_by_places : Cal P w K mg base CX0 "by_places" ["long", "size", "least"] 2 (spD0 K 3 (f_by_places))) (h_by_spheres : Cal P w K mg base CX0 "by_spheres" ["long", "size", "least"] 3 (spD0 K 3 (f_by_spheres))) (h_all_bounds : Cal P w K mg base CX0 "all_bounds" ["long", "size", "least"] 4 (spD0 K 3 (f_all_bounds))) (hp : ∀ a ms, DrawOk ms → ∃ S, b_law (.un :: .drw a 0 ms :: List.replicate 25 .un) = .rt (.bool true) S) : FnOk P w K mg base CX0 6 f fd ["script"] (spLaw K) := by
  refine F.ok (k := 5) sc_law (fun vs H Q E h => ?_) (fun cdv A outer s H vs Q E hr h => ?_)
  · obtain ⟨a, ns, rfl, _⟩ := h
    rfl
  · obtain ⟨a, ns, rfl, hS, hlen, q⟩ := h
    have hu := hr.units
    have nd := sc_law.nd
    have hrest : ∀ X : Cx, X = (cxOf CX0 P w K mg base ["script", "state", "size", "long", "least", "told", "spheres", "number", "many", "rows", "due", "now", "turn", "inner", "checks", "short", "far", "small", "words", "word", "field", "code", "every", "best", "e", "k", "other"] "law" (defScope s_law) f cdv A outer s H E).nox → DSs X W0 (defBody s_law).tail b_law := fun X e => by
      subst e
      exact (ds_cons (ds_asg (de_tup (da_cons (de_fnW 1 h__law_pick (hr.mono (by decide)) (da_cons (de_lst (da_cons de_int (da_cons de_int (da_cons de_int (da_cons de_int (da_cons de_int da_nil)))))) da_nil)) (da_cons (de_op od_add de_int (dl_e (de_fnW 1 h__law_take (hr.mono (by decide)) (da_cons de_int da_nil)))) da_nil))) (dg_tup rfl (dgs_cons (dg_name 2 nd rfl (by first | exact Or.inl rfl | exact Or.inr rfl)) (dgs_cons (dg_name 3 nd rfl (by first | exact Or.inl rfl | exact Or.inr rfl)) dgs_nil)))) (ds_cons (ds_set 4 nd (de_op od_add de_int (dl_e (de_fnW 1 h__law_take (hr.mono (by decide)) (da_cons (de_v 3) da_nil))))) (ds_cons (ds_set 5 nd (de_fn h_all_bounds (hr.mono (by decide)) (da_cons (de_v 3) (da_cons (de_v 2) (da_cons (de_v 4) da_nil))))) (ds_cons (ds_set 6 nd (de_op od_fdiv (de_fn h__law_power (hr.mono (by decide)) (da_cons (de_v 2) (da_cons (de_v 3) da_nil))) (dl_e (de_fn h__law_ball (hr.mono (by decide)) (da_cons (de_v 3) (da_cons (de_v 2) (da_cons (de_op od_fdiv (de_op od_sub (de_v 4) (dl_e de_int)) (dl_e de_int)) da_nil))))))) (ds_cons (ds_if (dt_w (dw_or (dt_cmp (od_ne hu) (de_fn h_by_spheres (hr.mono (by decide)) (da_cons (de_v 3) (da_cons (de_v 2) (da_cons (de_v 4) da_nil)))) (dl_e (de_v 6)) (nomark _)) (dw_or (dt_cmp (od_ne hu) (de_fn h_by_places (hr.mono (by decide)) (da_cons (de_v 3) (da_cons (de_v 2) (da_cons (de_v 4) da_nil)))) (dl_e (de_fn h__law_power (hr.mono (by decide)) (da_cons (de_v 2) (da_cons (de_op od_add (de_op od_sub (de_v 3) (dl_e (de_v 4))) (dl_e de_int)) da_nil)))) (nomark _)) (dw_or1 (dt_cmp (od_ne hu) (de_fn h_by_sums (hr.mono (by decide)) (da_cons (de_v 3) (da_cons (de_v 2) (da_cons (de_v 4) da_nil)))) (dl_e (de_fn h__law_sums (hr.mono (by decide)) (da_cons (de_v 3) (da_cons (de_v 2) (da_cons (de_v 4) da_nil))))) (nomark _)))))) (ds_cons (ds_ret de_bl) ds_nil) ds_nil) (ds_cons (ds_if (dt_cmp (od_neX hu) (de_v 5) (dl_e (de_m (t := false) (dm_disp hu (DPr.cons de_str (de_v 6) (DPr.cons de_str (de_fn h__law_power (hr.mono (by decide)) (da_cons (de_v 2) (da_cons (de_op od_add (de_op od_sub (de_v 3) (dl_e (de_v 4))) (dl_e de_int)) da_nil))) (DPr.cons de_str (de_fn h__law_sums (hr.mono (by decide)) (da_cons (de_v 3) (da_cons (de_v 2) (da_cons (de_v 4) da_nil)))) DPr.nil)))))) (nomark _)) (ds_cons (ds_ret de_bl) ds_nil) ds_nil) (ds_cons (ds_set 7 nd (de_fnW 1 h__law_take (hr.mono (by decide)) (da_cons (de_op od_add (de_v 3) (dl_e de_int)) da_nil))) (ds_cons (ds_if (dt_cmp (od_ne hu) (de_fn h_ball (hr.mono (by decide)) (da_cons (de_v 3) (da_cons (de_v 2) (da_cons (de_v 7) da_nil)))) (dl_e (de_fn h__law_ball (hr.mono (by decide)) (da_cons (de_v 3) (da_cons (de_v 2) (da_cons (de_v 7) da_nil))))) (nomark _)) (ds_cons (ds_ret de_bl) ds_nil) ds_nil) (ds_cons (ds_set 8 nd (de_fnW 1 h__law_pick (hr.mono (by decide)) (da_cons (de_lst (da_cons de_int (da_cons de_int (da_cons (de_v 6) (da_cons (de_op od_add (de_v 6) (dl_e de_int)) (da_cons (de_fn h__law_power (hr.mono (by decide)) (da_cons (de_v 2) (da_cons (de_op od_add (de_op od_sub (de_v 3) (dl_e (de_v 4))) (dl_e de_int)) da_nil))) (da_cons (de_op od_add (de_fn h__law_power (hr.mono (by decide)) (da_cons (de_v 2) (da_cons (de_op od_add (de_op od_sub (de_v 3) (dl_e (de_v 4))) (dl_e de_int)) da_nil))) (dl_e de_int)) (da_cons (de_fnW 1 h__law_take (hr.mono (by decide)) (da_cons de_int da_nil)) da_nil)))))))) da_nil))) (ds_cons (ds_if (dt_cmp (od_ne hu) (de_fn h_fits_bounds (hr.mono (by decide)) (da_cons (de_v 3) (da_cons (de_v 2) (da_cons (de_v 4) (da_cons (de_v 8) da_nil))))) (dl_e (de_fn h__law_keeps (hr.mono (by decide)) (da_cons (de_v 3) (da_cons (de_v 2) (da_cons (de_v 4) (da_cons (de_v 8) da_nil)))))) (nomark _)) (ds_cons (ds_ret de_bl) ds_nil) ds_nil) (ds_cons (ds_par3 9 10 11 rfl nd (da_cons (de_op od_add de_int (dl_e (de_fnW 1 h__law_take (hr.mono (by decide)) (da_cons de_int da_nil)))) (da_cons de_int (da_cons de_int da_nil))) (by decide) (by decide) (by decide)) (ds_cons (ds_for PassesOwn.never rfl (di_range1 (by rfl) B.range (da_cons (de_v 9) da_nil)) (dg_name 12 nd rfl (by first | exact Or.inl rfl | exact Or.inr rfl)) (ds_cons (ds_par 10 11 rfl nd (da_cons (de_op od_add (de_op od_add (de_v 10) (dl_e (de_op od_fdiv (de_v 4) (dl_e (de_v 11))))) (dl_e (de_if (dt_cmp od_gt (de_op od_mod (de_Ty cd_int (by rfl) B.int bt_int (da_cons (de_v 4) da_nil)) (dl_e (de_v 11))) (dl_e de_int) (nomark _)) de_int de_int))) (da_cons (de_op od_mul (de_v 11) (dl_e (de_v 2))) da_nil)) (by decide)) ds_nil)) (ds_cons (ds_if (dt_cmp (od_ne hu) (de_fn h_shortest (hr.mono (by decide)) (da_cons (de_v 2) (da_cons (de_v 9) (da_cons (de_v 4) da_nil)))) (dl_e (de_v 10)) (nomark _)) (ds_cons (ds_ret de_bl) ds_nil) ds_nil) (ds_cons (ds_set 13 nd (de_fn h__law_ball (hr.mono (by decide)) (da_cons (de_v 3) (da_cons (de_v 2) (da_cons (de_op od_sub (de_v 4) (dl_e de_int)) da_nil))))) (ds_cons (ds_if (dt_cmp (od_ne hu) (de_fn h_surely (hr.mono (by decide)) (da_cons (de_v 3) (da_cons (de_v 2) (da_cons (de_v 4) da_nil)))) (dl_e (de_op od_add (de_op od_fdiv (de_fn h__law_power (hr.mono (by decide)) (da_cons (de_v 2) (da_cons (de_v 3) da_nil))) (dl_e (de_v 13))) (dl_e (de_if (dt_cmp od_gt (de_op od_mod (de_Ty cd_int (by rfl) B.int bt_int (da_cons (de_fn h__law_power (hr.mono (by decide)) (da_cons (de_v 2) (da_cons (de_v 3) da_nil))) da_nil)) (dl_e (de_v 13))) (dl_e de_int) (nomark _)) de_int de_int)))) (nomark _)) (ds_cons (ds_ret de_bl) ds_nil) ds_nil) (ds_cons (ds_set 14 nd de_int) (ds_cons (ds_for PassesOwn.never rfl (di_range1 (by rfl) B.range (da_cons (de_v 3) da_nil)) (dg_name 12 nd rfl (by first | exact Or.inl rfl | exact Or.inr rfl)) (ds_cons (ds_set 5 nd (de_B (cd_sum rfl) (by rfl) B.sum bt_sum (da_cons (de_f (df_comp (own := [("k", 25)]) rfl nd (di_range1 (by rfl) B.range (da_cons (de_op od_sub (de_v 4) (dl_e de_int)) da_nil)) (blkOk_by (by rfl)) (fun _ _ _ _ _ => (dg_name 25 nd rfl (by first | exact Or.inl rfl | exact Or.inr rfl))) (fun _ _ _ _ _ => dts_nil) (fun _ _ _ _ _ => (de_op od_mul (de_fn h__law_choose (hr.mono (by decide)) (da_cons (de_op od_sub (de_v 3) (dl_e de_int)) (da_cons (de_v 25) da_nil))) (dl_e (de_fn h__law_power (hr.mono (by decide)) (da_cons (de_op od_sub (de_v 2) (dl_e de_int)) (da_cons (de_v 25) da_nil)))))) (by decide))) da_nil))) (ds_cons (ds_set 14 nd (de_if (dt_w (dw_and (dt_cmp od_ge (de_v 5) (dl_e (de_fn h__law_power (hr.mono (by decide)) (da_cons (de_v 2) (da_cons (de_v 14) da_nil)))) (nomark _)) (dw_and (dt_cmp od_gt (de_v 4) (dl_e de_int) (nomark _)) (dw_and1 (dt_cmp (od_eq hu) (de_v 14) (dl_e (de_v 12)) (nomark _)))))) (de_op od_add (de_v 14) (dl_e de_int)) (de_v 14))) ds_nil))) (ds_cons (ds_if (dt_cmp (od_ne hu) (de_fn h_surely_rows (hr.mono (by decide)) (da_cons (de_v 3) (da_cons (de_v 2) (da_cons (de_v 4) da_nil)))) (dl_e (de_op od_sub (de_v 3) (dl_e (de_v 14)))) (nomark _)) (ds_cons (ds_ret de_bl) ds_nil) ds_nil) (ds_cons (ds_asg (de_tup (da_cons (de_op od_add de_int (dl_e (de_fnW 1 h__law_take (hr.mono (by decide)) (da_cons de_int da_nil)))) (da_cons (de_op od_add de_int (dl_e (de_fnW 1 h__law_take (hr.mono (by decide)) (da_cons de_int da_nil)))) da_nil))) (dg_tup rfl (dgs_cons (dg_name 15 nd rfl (by first | exact Or.inl rfl | exact Or.inr rfl)) (dgs_cons (dg_name 16 nd rfl (by first | exact Or.inl rfl | exact Or.inr rfl)) dgs_nil)))) (ds_cons (ds_set 17 nd (de_fnW 1 h__law_pick (hr.mono (by decide)) (da_cons (de_lst (da_cons de_int (da_cons de_int da_nil))) da_nil))) (ds_cons (ds_if (dt_w (dw_and (dt_cmp od_le (de_v 16) (dl_e (de_v 15)) (nomark _)) (dw_and1 (dt_cmp od_lt (de_fn h__law_power (hr.mono (by decide)) (da_cons (de_v 17) (da_cons (de_v 15) da_nil))) (dl_e de_int) (nomark _))))) (ds_cons (ds_own 18 nd (df_lst da_nil)) (ds_cons (ds_for PassesOwn.never rfl (di_any (de_fn h__law_words (hr.mono (by decide)) (da_cons (de_v 17) (da_cons (de_v 15) da_nil)))) (dg_name 19 nd rfl (by first | exact Or.inl rfl | exact Or.inr rfl)) (ds_cons (ds_if (dt_cmp (od_eq hu) (de_B cd_len (by rfl) B.len bt_len (da_cons (de_f (df_compO (own := [("other", 26)]) 18 rfl nd (blkOk_by (by rfl)) (fun _ _ _ _ _ => (dg_name 26 nd rfl (by first | exact Or.inl rfl | exact Or.inr rfl))) (fun _ _ _ _ _ => (dts_one (dt_cmp od_lt (de_fn h__law_far (hr.mono (by decide)) (da_cons (de_v 19) (da_cons (de_v 26) da_nil))) (dl_e (de_v 16)) (nomark _)))) (fun _ _ _ _ _ => (de_v 26)) (by decide))) da_nil)) (dl_e de_int) (nomark _)) (ds_cons (ds_expr (de_mut 18 md_append PySem.F.slot_list_append PySem.F.type_list_append (da_cons (de_v 19) da_nil))) ds_nil) ds_nil) ds_nil)) (ds_cons (ds_if (dt_w (dw_or (dt_cmp (od_ne hu) (de_fnX takes0 h_greedy (hr.mono (by decide)) (da_cons (de_v 17) (da_cons (de_v 15) (da_cons (de_v 16) da_nil)))) (dl_o 18) (nomark _)) (dw_or (dt_not (dt_val (de_fn h__law_keeps (hr.mono (by decide)) (da_cons (de_v 15) (da_cons (de_v 17) (da_cons (de_v 16) (da_cons (de_BO 18 cd_len (by rfl) B.len bt_len) da_nil))))))) (dw_or1 (dt_cmp od_lt (de_BO 18 cd_len (by rfl) B.len bt_len) (dl_e (de_fn h_surely (hr.mono (by decide)) (da_cons (de_v 15) (da_cons (de_v 17) (da_cons (de_v 16) da_nil))))) (nomark _)))))) (ds_cons (ds_ret de_bl) ds_nil) ds_nil) ds_nil))) ds_nil) (ds_cons (ds_asg (de_fnW 1 h__law_code (hr.mono (by decide)) (da_cons (de_lst (da_cons de_int (da_cons de_int (da_cons de_int da_nil)))) (da_cons de_int (da_cons de_int da_nil)))) (dg_tup rfl (dgs_cons (dg_name 20 nd rfl (by first | exact Or.inl rfl | exact Or.inr rfl)) (dgs_cons (dg_name 21 nd rfl (by first | exact Or.inl rfl | exact Or.inr rfl)) dgs_nil)))) (ds_cons (ds_datLc 22 (own := [("word", 19)]) rfl nd (di_any (de_fn h__law_all (hr.mono (by decide)) (da_cons (de_v 20) (da_cons (de_v 21) da_nil)))) (blkOk_by (by rfl)) (fun _ _ _ _ _ => (dg_name 19 nd rfl (by first | exact Or.inl rfl | exact Or.inr rfl))) (fun _ _ _ _ _ => (dts_one (dt_cmp od_gt (de_fn h__law_weight (hr.mono (by decide)) (da_cons (de_v 19) da_nil)) (dl_e de_int) (nomark _)))) (fun _ _ _ _ _ => (de_v 19)) (by decide) (sw_true rfl rfl rfl (by decide +kernel))) (ds_cons (ds_if (dt_cmp od_gt (de_B cd_len (by rfl) B.len bt_len (da_cons (de_v 22) da_nil)) (dl_e de_int) (nomark _)) (ds_cons (ds_set 23 nd (de_B (cd_min rfl) (by rfl) B.min bt_min (da_cons (de_f (df_comp (own := [("word", 19)]) rfl nd (di_any (de_v 22)) (blkOk_by (by rfl)) (fun _ _ _ _ _ => (dg_name 19 nd rfl (by first | exact Or.inl rfl | exact Or.inr rfl))) (fun _ _ _ _ _ => dts_nil) (fun _ _ _ _ _ => (de_fn h__law_weight (hr.mono (by decide)) (da_cons (de_v 19) da_nil))) (by decide))) da_nil))) (ds_cons (ds_if (dt_w (dw_or (dt_cmp od_isnt (de_fn h_fits_bounds (hr.mono (by decide)) (da_cons (de_ix hu (de_v 21) de_int) (da_cons (de_ix hu (de_v 21) de_int) (da_cons (de_v 23) (da_cons (de_op od_add (de_B cd_len (by rfl) B.len bt_len (da_cons (de_v 22) da_nil)) (dl_e de_int)) da_nil))))) (dl_e de_bl) (nomark _)) (dw_or1 (dt_cmp od_gt (de_fn h_shortest (hr.mono (by decide)) (da_cons (de_ix hu (de_v 21) de_int) (da_cons (de_B cd_len (by rfl) B.len bt_len (da_cons (de_ix hu (de_v 21) de_int) da_nil)) (da_cons (de_v 23) da_nil)))) (dl_e (de_ix hu (de_v 21) de_int)) (nomark _))))) (ds_cons (ds_ret de_bl) ds_nil) ds_nil) ds_nil)) ds_nil) (ds_cons (ds_tryCmp x_Great nd (fun W pn xe tk => (ds_cons (ds_expr (de_fnX tk h_greedy (hr.mono (by decide)) (da_cons de_int (da_cons de_int (da_cons de_int da_nil))))) (ds_cons (ds_ret de_bl) ds_nil)))) ds_nil)))))))))))))))))))))))))
    obtain ⟨fS, fdS, GS, gS, kS, bS⟩ := h__law_state
    refine ⟨_, pss_cons (ps_set (i := 1) nd rfl (by first | exact Or.inl rfl | exact Or.inr rfl) (pe_call GS (hr.mono (by decide)) (by rfl) gS kS bS .nil pass0 (pa_cons (pv 0) pa_nil))) (hrest _ rfl), ?_⟩
    refine ⟨.ref a, rfl, a, ns, rfl, hS, hlen, fun H1 p b sm np nb ne ms hms ep eb => ?_⟩
    obtain ⟨S', er⟩ := hp p ms hms
    exact law_rest (n := 25) ne ep eb er q
end
end FW

namespace FW
open PySem PySem.Spec L2
open PyProof.Rows hiding St
/-! ### the head -/
def d_choose : He.DefD := ⟨("choose", none), "choose", "choose", defArgs s_choose, defBody s_choose, defScope s_choose, [], []⟩
def d_power : He.DefD := ⟨("power", none), "power", "power", defArgs s_power, defBody s_power, defScope s_power, [], []⟩
def d_ball : He.DefD := ⟨("ball", none), "ball", "ball", defArgs s_ball, defBody s_ball, defScope s_ball, [], []⟩
def d_by_spheres : He.DefD := ⟨("by_spheres", none), "by_spheres", "by_spheres", defArgs s_by_spheres, defBody s_by_spheres, defScope s_by_spheres, [], []⟩
def d_by_places : He.DefD := ⟨("by_places", none), "by_places", "by_places", defArgs s_by_places, defBody s_by_places, defScope s_by_places, [], []⟩
def d_by_sums : He.DefD := ⟨("by_sums", none), "by_sums", "by_sums", defArgs s_by_sums, defBody s_by_sums, defScope s_by_sums, [], []⟩
def d_shortest : He.DefD := ⟨("shortest", none), "shortest", "shortest", defArgs s_shortest, defBody s_shortest, defScope s_shortest, [], []⟩
def d_surely : He.DefD := ⟨("surely", none), "surely", "surely", defArgs s_surely, defBody s_surely, defScope s_surely, [], []⟩
def d_surely_rows : He.DefD := ⟨("surely_rows", none), "surely_rows", "surely_rows", defArgs s_surely_rows, defBody s_surely_rows, defScope s_surely_rows, [], []⟩
def d_all_bounds : He.DefD := ⟨("all_bounds", none), "all_bounds", "all_bounds", defArgs s_all_bounds, defBody s_all_bounds, defScope s_all_bounds, [], []⟩
def d_fits_bounds : He.DefD := ⟨("fits_bounds", none), "fits_bounds", "fits_bounds", defArgs s_fits_bounds, defBody s_fits_bounds, defScope s_fits_bounds, [], []⟩
def d_next_word : He.DefD := ⟨("next_word", none), "next_word", "next_word", defArgs s_next_word, defBody s_next_word, defScope s_next_word, [], []⟩
def d_greedy : He.DefD := ⟨("greedy", none), "greedy", "greedy", defArgs s_greedy, defBody s_greedy, defScope s_greedy, [], []⟩
def d__law_state : He.DefD := ⟨("_law_state", none), "_law_state", "_law_state", defArgs s__law_state, defBody s__law_state, defScope s__law_state, [], []⟩
def d__law_take : He.DefD := ⟨("_law_take", none), "_law_take", "_law_take", defArgs s__law_take, defBody s__law_take, defScope s__law_take, [], []⟩
def d__law_pick : He.DefD := ⟨("_law_pick", none), "_law_pick", "_law_pick", defArgs s__law_pick, defBody s__law_pick, defScope s__law_pick, [], []⟩
def d__law_digits : He.DefD := ⟨("_law_digits", none), "_law_digits", "_law_digits", defArgs s__law_digits, defBody s__law_digits, defScope s__law_digits, [], []⟩
def d__law_field : He.DefD := ⟨("_law_field", none), "_law_field", "_law_field", defArgs s__law_field, defBody s__law_field, defScope s__law_field, [], []⟩
def d__law_neg : He.DefD := ⟨("_law_neg", none), "_law_neg", "_law_neg", defArgs s__law_neg, defBody s__law_neg, defScope s__law_neg, [], []⟩
def d__law_dot : He.DefD := ⟨("_law_dot", none), "_law_dot", "_law_dot", defArgs s__law_dot, defBody s__law_dot, defScope s__law_dot, [], []⟩
def d__law_mix : He.DefD := ⟨("_law_mix", none), "_law_mix", "_law_mix", defArgs s__law_mix, defBody s__law_mix, defScope s__law_mix, [], []⟩
def d__law_plain : He.DefD := ⟨("_law_plain", none), "_law_plain", "_law_plain", defArgs s__law_plain, defBody s__law_plain, defScope s__law_plain, [], []⟩
def d__law_words : He.DefD := ⟨("_law_words", none), "_law_words", "_law_words", defArgs s__law_words, defBody s__law_words, defScope s__law_words, [], []⟩
def d__law_all : He.DefD := ⟨("_law_all", none), "_law_all", "_law_all", defArgs s__law_all, defBody s__law_all, defScope s__law_all, [], []⟩
def d__law_code : He.DefD := ⟨("_law_code", none), "_law_code", "_law_code", defArgs s__law_code, defBody s__law_code, defScope s__law_code, [], []⟩
def d__law_dual : He.DefD := ⟨("_law_dual", none), "_law_dual", "_law_dual", defArgs s__law_dual, defBody s__law_dual, defScope s__law_dual, [], []⟩
def d__law_weight : He.DefD := ⟨("_law_weight", none), "_law_weight", "_law_weight", defArgs s__law_weight, defBody s__law_weight, defScope s__law_weight, [], []⟩
def d__law_far : He.DefD := ⟨("_law_far", none), "_law_far", "_law_far", defArgs s__law_far, defBody s__law_far, defScope s__law_far, [], []⟩
def d__law_choose : He.DefD := ⟨("_law_choose", none), "_law_choose", "_law_choose", defArgs s__law_choose, defBody s__law_choose, defScope s__law_choose, [], []⟩
def d__law_power : He.DefD := ⟨("_law_power", none), "_law_power", "_law_power", defArgs s__law_power, defBody s__law_power, defScope s__law_power, [], []⟩
def d__law_ball : He.DefD := ⟨("_law_ball", none), "_law_ball", "_law_ball", defArgs s__law_ball, defBody s__law_ball, defScope s__law_ball, [], []⟩
def d__law_sums : He.DefD := ⟨("_law_sums", none), "_law_sums", "_law_sums", defArgs s__law_sums, defBody s__law_sums, defScope s__law_sums, [], []⟩
def d__law_keeps : He.DefD := ⟨("_law_keeps", none), "_law_keeps", "_law_keeps", defArgs s__law_keeps, defBody s__law_keeps, defScope s__law_keeps, [], []⟩
def d_law : He.DefD := ⟨("law", none), "law", "law", defArgs s_law, defBody s_law, defScope s_law, [], []⟩
def fns : List He.DefD := [d_choose, d_power, d_ball, d_by_spheres, d_by_places, d_by_sums, d_shortest, d_surely, d_surely_rows, d_all_bounds, d_fits_bounds, d_next_word, d_greedy, d__law_state, d__law_take, d__law_pick, d__law_digits, d__law_field, d__law_neg, d__law_dot, d__law_mix, d__law_plain, d__law_words, d__law_all, d__law_code, d__law_dual, d__law_weight, d__law_far, d__law_choose, d__law_power, d__law_ball, d__law_sums, d__law_keeps, d_law]
def fas : List He.Fa := [.glo "choose", .glo "power", .glo "ball", .glo "by_spheres", .glo "by_places", .glo "by_sums", .glo "shortest", .glo "surely", .glo "surely_rows", .glo "all_bounds", .glo "fits_bounds", .glo "next_word", .glo "greedy", .glo "_law_state", .glo "_law_take", .glo "_law_pick", .glo "_law_digits", .glo "_law_field", .glo "_law_neg", .glo "_law_dot", .glo "_law_mix", .glo "_law_plain", .glo "_law_words", .glo "_law_all", .glo "_law_code", .glo "_law_dual", .glo "_law_weight", .glo "_law_far", .glo "_law_choose", .glo "_law_power", .glo "_law_ball", .glo "_law_sums", .glo "_law_keeps", .glo "law", .free "len", .free "range", .free "sum", .free "tuple", .free "list", .free "int", .free "isinstance", .free "any", .free "all", .free "abs", .free "min", .free "max", .free "sorted", .free "set", .free "dict", .free "str", .free "bool", .free "zip"]
abbrev s_ex_Great : Stmt := clsS (topS 2) 0
def ed_Great : ExD := ⟨"Great", "limit", "beyond the bound of ", "Great.__init__", defArgs s_ex_Great, defBody s_ex_Great, defScope s_ex_Great⟩
theorem et_Great : ExT PySem.Challenge.pw_farwords_k12_whole_bounds_and_what_keeps ed_Great where
  bd := ⟨_, _, _, _, _, _, _, _, _, _, _, _, _, rfl, fun _ _ _ _ _ _ _ _ _ _ => ⟨rfl, rfl, ⟨_, rfl⟩, rfl, rfl⟩⟩
  hd := ⟨_, rfl, rfl⟩
  bi := fun _ _ _ _ _ _ _ us hl => match us, hl with | [_, _], _ => rfl
  top := by decide +kernel
  k1 := rfl
  k2 := rfl
  k3 := rfl
  k4 := rfl
  kk := rfl
  kco := rfl
  kge := rfl
  kce := by decide +kernel
  yd := by decide +kernel
  ys := by decide +kernel
  yl := by decide +kernel
def exs : List ExD := [ed_Great]
def bsx : List (PySem.W.Frag → Bool) := [(excB PySem.Challenge.pw_farwords_k12_whole_bounds_and_what_keeps.main.file ed_Great)]
abbrev R : PySem.W.OpenRow := PySem.W.OpenLaw.row PySem.Challenge.rw_farwords_k12_whole_bounds_and_what_keeps
abbrev hk : PySem.W.Hook := hookY 6 fas fns bsx exs
def ob (s : PySem.W.SharedT) : AlY := obsYG 6 fas fns bsx exs (HandSHeadRun.getT s)
theorem ob_eq (s : PySem.W.SharedT) : ob s = hk.obs s.abs := obsYG_eq (HandSHeadRun.getT_eq s)
def loose : List PySem.Str := "Wrong" :: "Great" :: "choose" :: "power" :: "ball" :: "by_spheres" :: "by_places" :: "by_sums" :: "shortest" :: "surely" :: "surely_rows" :: "all_bounds" :: "fits_bounds" :: "greedy" :: "next_word" :: "_law_state" :: "_law_take" :: "_law_pick" :: "_law_digits" :: "_law_field" :: "_law_neg" :: "_law_dot" :: "_law_mix" :: "_law_plain" :: "_law_words" :: "_law_all" :: "_law_code" :: "_law_dual" :: "_law_weight" :: "_law_far" :: "_law_choose" :: "_law_power" :: "_law_ball" :: "_law_sums" :: "_law_keeps" :: []
theorem runA (w : World) : HandSHeadRun.RunEq R (PySem.W.view R.prog [39]) hk ob 4000 loose (w.withFollow "special-get-raises" false) := fun os => by kernel_rfl
theorem runB (w : World) : HandSHeadRun.RunEq R (PySem.W.view R.prog [39]) hk ob 4000 loose (w.withFollow "special-get-raises" true) := fun os => by kernel_rfl
theorem run (w : World) : HandSHeadRun.RunEq R (PySem.W.view R.prog [39]) hk ob 4000 loose w :=
  PySem.W.byRow2 "special-get-raises" (P := fun w => HandSHeadRun.RunEq R (PySem.W.view R.prog [39]) hk ob 4000 loose w) runA runB w
set_option maxHeartbeats 0 in
theorem facts {w : World} {K : PySem.W.Frag} {h : Heap} {mg : Str → Option Value} {f : Addr} (hp : ∀ a ms, DrawOk ms → ∃ S, b_law (.un :: .drw a 0 ms :: List.replicate 25 .un) = .rt (.bool true) S) (X : K.In h) (G : h.Ns mainGlobals mg) (hfa : mg ("law" : Str) = some (.ref f)) (cy : SaysY fas fns bsx exs K) :
    ∃ fd : FuncData, (∀ (s : Shared) (v : Value), BindsTo s fd ⟨[v], []⟩ [("script", v)]) ∧ ∀ base : Heap, K.In base → base.Ns mainGlobals mg → FnOk PySem.Challenge.pw_farwords_k12_whole_bounds_and_what_keeps w K mg base CX0 6 f fd ["script"] (spLaw K) := by
  have cx := cy.x
  have c := cx.d
  have B : Blt mg := ⟨He.free_ok X G (c.fact 34 (f := .free "len") rfl), He.free_ok X G (c.fact 35 (f := .free "range") rfl), He.free_ok X G (c.fact 36 (f := .free "sum") rfl), He.free_ok X G (c.fact 37 (f := .free "tuple") rfl), He.free_ok X G (c.fact 38 (f := .free "list") rfl), He.free_ok X G (c.fact 39 (f := .free "int") rfl), He.free_ok X G (c.fact 40 (f := .free "isinstance") rfl), He.free_ok X G (c.fact 41 (f := .free "any") rfl), He.free_ok X G (c.fact 42 (f := .free "all") rfl), He.free_ok X G (c.fact 43 (f := .free "abs") rfl), He.free_ok X G (c.fact 44 (f := .free "min") rfl), He.free_ok X G (c.fact 45 (f := .free "max") rfl), He.free_ok X G (c.fact 46 (f := .free "sorted") rfl), He.free_ok X G (c.fact 47 (f := .free "set") rfl), He.free_ok X G (c.fact 48 (f := .free "dict") rfl), He.free_ok X G (c.fact 49 (f := .free "str") rfl), He.free_ok X G (c.fact 50 (f := .free "bool") rfl), He.free_ok X G (c.fact 51 (f := .free "zip") rfl)⟩
  have x_Great : ∀ base, ExC PySem.Challenge.pw_farwords_k12_whole_bounds_and_what_keeps w K mg base "Great" "limit" := exC_of et_Great X G (cy.e 0 rfl) (cx.b 0 rfl)
  obtain ⟨fd_choose, T_choose⟩ := c.def_ 0 (d := d_choose) rfl
  have U_choose : Fun K "choose" "choose" s_choose (He.ga K "choose") fd_choose := fun_of T_choose
  have b_choose : L2.Binds K fd_choose ["many", "few"] [] := T_choose.bindsN fun _ _ _ _ _ _ us hl => match us, hl with | [_, _], _ => rfl
  have h_choose : ∀ base, Cal PySem.Challenge.pw_farwords_k12_whole_bounds_and_what_keeps w K mg base CX0 "choose" ["many", "few"] 1 (spD0 K 2 (f_choose)) := fun base => Cal.mk' U_choose (ok_choose B U_choose ) (He.glo_ok X G (c.fact 0 (f := .glo "choose") rfl)) b_choose
  obtain ⟨fd_power, T_power⟩ := c.def_ 1 (d := d_power) rfl
  have U_power : Fun K "power" "power" s_power (He.ga K "power") fd_power := fun_of T_power
  have b_power : L2.Binds K fd_power ["one", "many"] [] := T_power.bindsN fun _ _ _ _ _ _ us hl => match us, hl with | [_, _], _ => rfl
  have h_power : ∀ base, Cal PySem.Challenge.pw_farwords_k12_whole_bounds_and_what_keeps w K mg base CX0 "power" ["one", "many"] 1 (spD0 K 2 (f_power)) := fun base => Cal.mk' U_power (ok_power B U_power ) (He.glo_ok X G (c.fact 1 (f := .glo "power") rfl)) b_power
  obtain ⟨fd_ball, T_ball⟩ := c.def_ 2 (d := d_ball) rfl
  have U_ball : Fun K "ball" "ball" s_ball (He.ga K "ball") fd_ball := fun_of T_ball
  have b_ball : L2.Binds K fd_ball ["long", "size", "number"] [] := T_ball.bindsN fun _ _ _ _ _ _ us hl => match us, hl with | [_, _, _], _ => rfl
  have h_ball : ∀ base, Cal PySem.Challenge.pw_farwords_k12_whole_bounds_and_what_keeps w K mg base CX0 "ball" ["long", "size", "number"] 2 (spD0 K 3 (f_ball)) := fun base => Cal.mk' U_ball (ok_ball B U_ball (h_choose base) (h_power base)) (He.glo_ok X G (c.fact 2 (f := .glo "ball") rfl)) b_ball
  obtain ⟨fd_by_spheres, T_by_spheres⟩ := c.def_ 3 (d := d_by_spheres) rfl
  have U_by_spheres : Fun K "by_spheres" "by_spheres" s_by_spheres (He.ga K "by_spheres") fd_by_spheres := fun_of T_by_spheres
  have b_by_spheres : L2.Binds K fd_by_spheres ["long", "size", "least"] [] := T_by_spheres.bindsN fun _ _ _ _ _ _ us hl => match us, hl with | [_, _, _], _ => rfl
  have h_by_spheres : ∀ base, Cal PySem.Challenge.pw_farwords_k12_whole_bounds_and_what_keeps w K mg base CX0 "by_spheres" ["long", "size", "least"] 3 (spD0 K 3 (f_by_spheres)) := fun base => Cal.mk' U_by_spheres (ok_by_spheres B U_by_spheres (h_power base) (h_ball base)) (He.glo_ok X G (c.fact 3 (f := .glo "by_spheres") rfl)) b_by_spheres
  obtain ⟨fd_by_places, T_by_places⟩ := c.def_ 4 (d := d_by_places) rfl
  have U_by_places : Fun K "by_places" "by_places" s_by_places (He.ga K "by_places") fd_by_places := fun_of T_by_places
  have b_by_places : L2.Binds K fd_by_places ["long", "size", "least"] [] := T_by_places.bindsN fun _ _ _ _ _ _ us hl => match us, hl with | [_, _, _], _ => rfl
  have h_by_places : ∀ base, Cal PySem.Challenge.pw_farwords_k12_whole_bounds_and_what_keeps w K mg base CX0 "by_places" ["long", "size", "least"] 2 (spD0 K 3 (f_by_places)) := fun base => Cal.mk' U_by_places (ok_by_places B U_by_places (h_power base)) (He.glo_ok X G (c.fact 4 (f := .glo "by_places") rfl)) b_by_places
  obtain ⟨fd_by_sums, T_by_sums⟩ := c.def_ 5 (d := d_by_sums) rfl
  have U_by_sums : Fun K "by_sums" "by_sums" s_by_sums (He.ga K "by_sums") fd_by_sums := fun_of T_by_sums
  have b_by_sums : L2.Binds K fd_by_sums ["long", "size", "least"] [] := T_by_sums.bindsN fun _ _ _ _ _ _ us hl => match us, hl with | [_, _, _], _ => rfl
  have h_by_sums : ∀ base, Cal PySem.Challenge.pw_farwords_k12_whole_bounds_and_what_keeps w K mg base CX0 "by_sums" ["long", "size", "least"] 1 (spD0 K 3 (f_by_sums)) := fun base => Cal.mk' U_by_sums (ok_by_sums B U_by_sums ) (He.glo_ok X G (c.fact 5 (f := .glo "by_sums") rfl)) b_by_sums
  obtain ⟨fd_shortest, T_shortest⟩ := c.def_ 6 (d := d_shortest) rfl
  have U_shortest : Fun K "shortest" "shortest" s_shortest (He.ga K "shortest") fd_shortest := fun_of T_shortest
  have b_shortest : L2.Binds K fd_shortest ["size", "rows", "least"] [] := T_shortest.bindsN fun _ _ _ _ _ _ us hl => match us, hl with | [_, _, _], _ => rfl
  have h_shortest : ∀ base, Cal PySem.Challenge.pw_farwords_k12_whole_bounds_and_what_keeps w K mg base CX0 "shortest" ["size", "rows", "least"] 1 (spD0 K 3 (f_shortest)) := fun base => Cal.mk' U_shortest (ok_shortest B U_shortest ) (He.glo_ok X G (c.fact 6 (f := .glo "shortest") rfl)) b_shortest
  obtain ⟨fd_surely, T_surely⟩ := c.def_ 7 (d := d_surely) rfl
  have U_surely : Fun K "surely" "surely" s_surely (He.ga K "surely") fd_surely := fun_of T_surely
  have b_surely : L2.Binds K fd_surely ["long", "size", "least"] [] := T_surely.bindsN fun _ _ _ _ _ _ us hl => match us, hl with | [_, _, _], _ => rfl
  have h_surely : ∀ base, Cal PySem.Challenge.pw_farwords_k12_whole_bounds_and_what_keeps w K mg base CX0 "surely" ["long", "size", "least"] 3 (spD0 K 3 (f_surely)) := fun base => Cal.mk' U_surely (ok_surely B U_surely (h_power base) (h_ball base)) (He.glo_ok X G (c.fact 7 (f := .glo "surely") rfl)) b_surely
  obtain ⟨fd_surely_rows, T_surely_rows⟩ := c.def_ 8 (d := d_surely_rows) rfl
  have U_surely_rows : Fun K "surely_rows" "surely_rows" s_surely_rows (He.ga K "surely_rows") fd_surely_rows := fun_of T_surely_rows
  have b_surely_rows : L2.Binds K fd_surely_rows ["long", "size", "least"] [] := T_surely_rows.bindsN fun _ _ _ _ _ _ us hl => match us, hl with | [_, _, _], _ => rfl
  have h_surely_rows : ∀ base, Cal PySem.Challenge.pw_farwords_k12_whole_bounds_and_what_keeps w K mg base CX0 "surely_rows" ["long", "size", "least"] 2 (spD0 K 3 (f_surely_rows)) := fun base => Cal.mk' U_surely_rows (ok_surely_rows B U_surely_rows (h_power base) (h_choose base)) (He.glo_ok X G (c.fact 8 (f := .glo "surely_rows") rfl)) b_surely_rows
  obtain ⟨fd_all_bounds, T_all_bounds⟩ := c.def_ 9 (d := d_all_bounds) rfl
  have U_all_bounds : Fun K "all_bounds" "all_bounds" s_all_bounds (He.ga K "all_bounds") fd_all_bounds := fun_of T_all_bounds
  have b_all_bounds : L2.Binds K fd_all_bounds ["long", "size", "least"] [] := T_all_bounds.bindsN fun _ _ _ _ _ _ us hl => match us, hl with | [_, _, _], _ => rfl
  have h_all_bounds : ∀ base, Cal PySem.Challenge.pw_farwords_k12_whole_bounds_and_what_keeps w K mg base CX0 "all_bounds" ["long", "size", "least"] 4 (spD0 K 3 (f_all_bounds)) := fun base => Cal.mk' U_all_bounds (ok_all_bounds B U_all_bounds (h_by_sums base) (h_by_places base) (h_by_spheres base)) (He.glo_ok X G (c.fact 9 (f := .glo "all_bounds") rfl)) b_all_bounds
  obtain ⟨fd_fits_bounds, T_fits_bounds⟩ := c.def_ 10 (d := d_fits_bounds) rfl
  have U_fits_bounds : Fun K "fits_bounds" "fits_bounds" s_fits_bounds (He.ga K "fits_bounds") fd_fits_bounds := fun_of T_fits_bounds
  have b_fits_bounds : L2.Binds K fd_fits_bounds ["long", "size", "least", "many"] [] := T_fits_bounds.bindsN fun _ _ _ _ _ _ us hl => match us, hl with | [_, _, _, _], _ => rfl
  have h_fits_bounds : ∀ base, Cal PySem.Challenge.pw_farwords_k12_whole_bounds_and_what_keeps w K mg base CX0 "fits_bounds" ["long", "size", "least", "many"] 5 (spD0 K 4 (f_fits_bounds)) := fun base => Cal.mk' U_fits_bounds (ok_fits_bounds B U_fits_bounds (h_all_bounds base)) (He.glo_ok X G (c.fact 10 (f := .glo "fits_bounds") rfl)) b_fits_bounds
  obtain ⟨fd_next_word, T_next_word⟩ := c.def_ 11 (d := d_next_word) rfl
  have U_next_word : Fun K "next_word" "next_word" s_next_word (He.ga K "next_word") fd_next_word := fun_of T_next_word
  have b_next_word : L2.Binds K fd_next_word ["size", "word"] [] := T_next_word.bindsN fun _ _ _ _ _ _ us hl => match us, hl with | [_, _], _ => rfl
  have h_next_word : ∀ base, Cal PySem.Challenge.pw_farwords_k12_whole_bounds_and_what_keeps w K mg base CX0 "next_word" ["size", "word"] 1 (spD0 K 2 (f_next_word)) := fun base => Cal.mk' U_next_word (ok_next_word B U_next_word ) (He.glo_ok X G (c.fact 11 (f := .glo "next_word") rfl)) b_next_word
  obtain ⟨fd_greedy, T_greedy⟩ := c.def_ 12 (d := d_greedy) rfl
  have U_greedy : Fun K "greedy" "greedy" s_greedy (He.ga K "greedy") fd_greedy := fun_of T_greedy
  have b_greedy : L2.Binds K fd_greedy ["size", "long", "least"] [] := T_greedy.bindsN fun _ _ _ _ _ _ us hl => match us, hl with | [_, _, _], _ => rfl
  have h_greedy : ∀ base, Cal PySem.Challenge.pw_farwords_k12_whole_bounds_and_what_keeps w K mg base (L2.CX PySem.Challenge.pw_farwords_k12_whole_bounds_and_what_keeps w) "greedy" ["size", "long", "least"] 3 (spDX K mg 3 f_greedy) := fun base => Cal.mk' U_greedy (ok_greedy B U_greedy (h_next_word base) (h_power base) (x_Great base)) (He.glo_ok X G (c.fact 12 (f := .glo "greedy") rfl)) b_greedy
  obtain ⟨fd__law_state, T__law_state⟩ := c.def_ 13 (d := d__law_state) rfl
  have U__law_state : Fun K "_law_state" "_law_state" s__law_state (He.ga K "_law_state") fd__law_state := fun_of T__law_state
  have b__law_state : L2.Binds K fd__law_state ["script"] [] := T__law_state.bindsN fun _ _ _ _ _ _ us hl => match us, hl with | [_], _ => rfl
  have h__law_state : ∀ base, Cal PySem.Challenge.pw_farwords_k12_whole_bounds_and_what_keeps w K mg base CX0 "_law_state" ["script"] 1 (spSt K) := fun base => Cal.mk' U__law_state (ok__law_state B U__law_state ) (He.glo_ok X G (c.fact 13 (f := .glo "_law_state") rfl)) b__law_state
  obtain ⟨fd__law_take, T__law_take⟩ := c.def_ 14 (d := d__law_take) rfl
  have U__law_take : Fun K "_law_take" "_law_take" s__law_take (He.ga K "_law_take") fd__law_take := fun_of T__law_take
  have b__law_take : L2.Binds K fd__law_take ["state", "most"] [] := T__law_take.bindsN fun _ _ _ _ _ _ us hl => match us, hl with | [_, _], _ => rfl
  have h__law_take : ∀ base, Cal PySem.Challenge.pw_farwords_k12_whole_bounds_and_what_keeps w K mg base CX0 "_law_take" ["state", "most"] 1 (spW K 2 f__law_take) := fun base => Cal.mk' U__law_take (ok__law_take B U__law_take ) (He.glo_ok X G (c.fact 14 (f := .glo "_law_take") rfl)) b__law_take
  obtain ⟨fd__law_pick, T__law_pick⟩ := c.def_ 15 (d := d__law_pick) rfl
  have U__law_pick : Fun K "_law_pick" "_law_pick" s__law_pick (He.ga K "_law_pick") fd__law_pick := fun_of T__law_pick
  have b__law_pick : L2.Binds K fd__law_pick ["state", "row"] [] := T__law_pick.bindsN fun _ _ _ _ _ _ us hl => match us, hl with | [_, _], _ => rfl
  have h__law_pick : ∀ base, Cal PySem.Challenge.pw_farwords_k12_whole_bounds_and_what_keeps w K mg base CX0 "_law_pick" ["state", "row"] 2 (spW K 2 f__law_pick) := fun base => Cal.mk' U__law_pick (ok__law_pick B U__law_pick (h__law_take base)) (He.glo_ok X G (c.fact 15 (f := .glo "_law_pick") rfl)) b__law_pick
  obtain ⟨fd__law_digits, T__law_digits⟩ := c.def_ 16 (d := d__law_digits) rfl
  have U__law_digits : Fun K "_law_digits" "_law_digits" s__law_digits (He.ga K "_law_digits") fd__law_digits := fun_of T__law_digits
  have b__law_digits : L2.Binds K fd__law_digits ["number", "base", "many"] [] := T__law_digits.bindsN fun _ _ _ _ _ _ us hl => match us, hl with | [_, _, _], _ => rfl
  have h__law_digits : ∀ base, Cal PySem.Challenge.pw_farwords_k12_whole_bounds_and_what_keeps w K mg base CX0 "_law_digits" ["number", "base", "many"] 1 (spD0 K 3 (f__law_digits)) := fun base => Cal.mk' U__law_digits (ok__law_digits B U__law_digits ) (He.glo_ok X G (c.fact 16 (f := .glo "_law_digits") rfl)) b__law_digits
  obtain ⟨fd__law_field, T__law_field⟩ := c.def_ 17 (d := d__law_field) rfl
  have U__law_field : Fun K "_law_field" "_law_field" s__law_field (He.ga K "_law_field") fd__law_field := fun_of T__law_field
  have b__law_field : L2.Binds K fd__law_field ["size"] [] := T__law_field.bindsN fun _ _ _ _ _ _ us hl => match us, hl with | [_], _ => rfl
  have h__law_field : ∀ base, Cal PySem.Challenge.pw_farwords_k12_whole_bounds_and_what_keeps w K mg base CX0 "_law_field" ["size"] 2 (spD0 K 1 (f__law_field)) := fun base => Cal.mk' U__law_field (ok__law_field B U__law_field (h__law_digits base)) (He.glo_ok X G (c.fact 17 (f := .glo "_law_field") rfl)) b__law_field
  obtain ⟨fd__law_neg, T__law_neg⟩ := c.def_ 18 (d := d__law_neg) rfl
  have U__law_neg : Fun K "_law_neg" "_law_neg" s__law_neg (He.ga K "_law_neg") fd__law_neg := fun_of T__law_neg
  have b__law_neg : L2.Binds K fd__law_neg ["field", "one"] [] := T__law_neg.bindsN fun _ _ _ _ _ _ us hl => match us, hl with | [_, _], _ => rfl
  have h__law_neg : ∀ base, Cal PySem.Challenge.pw_farwords_k12_whole_bounds_and_what_keeps w K mg base CX0 "_law_neg" ["field", "one"] 1 (spD0 K 2 (f__law_neg)) := fun base => Cal.mk' U__law_neg (ok__law_neg B U__law_neg ) (He.glo_ok X G (c.fact 18 (f := .glo "_law_neg") rfl)) b__law_neg
  obtain ⟨fd__law_dot, T__law_dot⟩ := c.def_ 19 (d := d__law_dot) rfl
  have U__law_dot : Fun K "_law_dot" "_law_dot" s__law_dot (He.ga K "_law_dot") fd__law_dot := fun_of T__law_dot
  have b__law_dot : L2.Binds K fd__law_dot ["field", "one", "other"] [] := T__law_dot.bindsN fun _ _ _ _ _ _ us hl => match us, hl with | [_, _, _], _ => rfl
  have h__law_dot : ∀ base, Cal PySem.Challenge.pw_farwords_k12_whole_bounds_and_what_keeps w K mg base CX0 "_law_dot" ["field", "one", "other"] 1 (spD0 K 3 (f__law_dot)) := fun base => Cal.mk' U__law_dot (ok__law_dot B U__law_dot ) (He.glo_ok X G (c.fact 19 (f := .glo "_law_dot") rfl)) b__law_dot
  obtain ⟨fd__law_mix, T__law_mix⟩ := c.def_ 20 (d := d__law_mix) rfl
  have U__law_mix : Fun K "_law_mix" "_law_mix" s__law_mix (He.ga K "_law_mix") fd__law_mix := fun_of T__law_mix
  have b__law_mix : L2.Binds K fd__law_mix ["field", "rows", "shares", "wide"] [] := T__law_mix.bindsN fun _ _ _ _ _ _ us hl => match us, hl with | [_, _, _, _], _ => rfl
  have h__law_mix : ∀ base, Cal PySem.Challenge.pw_farwords_k12_whole_bounds_and_what_keeps w K mg base CX0 "_law_mix" ["field", "rows", "shares", "wide"] 1 (spD0 K 4 (f__law_mix)) := fun base => Cal.mk' U__law_mix (ok__law_mix B U__law_mix ) (He.glo_ok X G (c.fact 20 (f := .glo "_law_mix") rfl)) b__law_mix
  obtain ⟨fd__law_plain, T__law_plain⟩ := c.def_ 21 (d := d__law_plain) rfl
  have U__law_plain : Fun K "_law_plain" "_law_plain" s__law_plain (He.ga K "_law_plain") fd__law_plain := fun_of T__law_plain
  have b__law_plain : L2.Binds K fd__law_plain ["field", "rows"] [] := T__law_plain.bindsN fun _ _ _ _ _ _ us hl => match us, hl with | [_, _], _ => rfl
  have h__law_plain : ∀ base, Cal PySem.Challenge.pw_farwords_k12_whole_bounds_and_what_keeps w K mg base CX0 "_law_plain" ["field", "rows"] 2 (spD0 K 2 (f__law_plain)) := fun base => Cal.mk' U__law_plain (ok__law_plain B U__law_plain (h__law_neg base)) (He.glo_ok X G (c.fact 21 (f := .glo "_law_plain") rfl)) b__law_plain
  obtain ⟨fd__law_words, T__law_words⟩ := c.def_ 22 (d := d__law_words) rfl
  have U__law_words : Fun K "_law_words" "_law_words" s__law_words (He.ga K "_law_words") fd__law_words := fun_of T__law_words
  have b__law_words : L2.Binds K fd__law_words ["size", "many"] [] := T__law_words.bindsN fun _ _ _ _ _ _ us hl => match us, hl with | [_, _], _ => rfl
  have h__law_words : ∀ base, Cal PySem.Challenge.pw_farwords_k12_whole_bounds_and_what_keeps w K mg base CX0 "_law_words" ["size", "many"] 1 (spD0 K 2 (f__law_words)) := fun base => Cal.mk' U__law_words (ok__law_words B U__law_words ) (He.glo_ok X G (c.fact 22 (f := .glo "_law_words") rfl)) b__law_words
  obtain ⟨fd__law_all, T__law_all⟩ := c.def_ 23 (d := d__law_all) rfl
  have U__law_all : Fun K "_law_all" "_law_all" s__law_all (He.ga K "_law_all") fd__law_all := fun_of T__law_all
  have b__law_all : L2.Binds K fd__law_all ["field", "code"] [] := T__law_all.bindsN fun _ _ _ _ _ _ us hl => match us, hl with | [_, _], _ => rfl
  have h__law_all : ∀ base, Cal PySem.Challenge.pw_farwords_k12_whole_bounds_and_what_keeps w K mg base CX0 "_law_all" ["field", "code"] 2 (spD0 K 2 (f__law_all)) := fun base => Cal.mk' U__law_all (ok__law_all B U__law_all (h__law_words base) (h__law_mix base)) (He.glo_ok X G (c.fact 23 (f := .glo "_law_all") rfl)) b__law_all
  obtain ⟨fd__law_code, T__law_code⟩ := c.def_ 24 (d := d__law_code) rfl
  have U__law_code : Fun K "_law_code" "_law_code" s__law_code (He.ga K "_law_code") fd__law_code := fun_of T__law_code
  have b__law_code : L2.Binds K fd__law_code ["state", "sizes", "most", "limit"] [] := T__law_code.bindsN fun _ _ _ _ _ _ us hl => match us, hl with | [_, _, _, _], _ => rfl
  have h__law_code : ∀ base, Cal PySem.Challenge.pw_farwords_k12_whole_bounds_and_what_keeps w K mg base CX0 "_law_code" ["state", "sizes", "most", "limit"] 3 (spW K 4 f__law_code) := fun base => Cal.mk' U__law_code (ok__law_code B U__law_code (h__law_plain base) (h__law_take base) (h__law_field base) (h__law_pick base)) (He.glo_ok X G (c.fact 24 (f := .glo "_law_code") rfl)) b__law_code
  obtain ⟨fd__law_dual, T__law_dual⟩ := c.def_ 25 (d := d__law_dual) rfl
  have U__law_dual : Fun K "_law_dual" "_law_dual" s__law_dual (He.ga K "_law_dual") fd__law_dual := fun_of T__law_dual
  have b__law_dual : L2.Binds K fd__law_dual ["field", "code"] [] := T__law_dual.bindsN fun _ _ _ _ _ _ us hl => match us, hl with | [_, _], _ => rfl
  have h__law_dual : ∀ base, Cal PySem.Challenge.pw_farwords_k12_whole_bounds_and_what_keeps w K mg base CX0 "_law_dual" ["field", "code"] 3 (spD0 K 2 (f__law_dual)) := fun base => Cal.mk' U__law_dual (ok__law_dual B U__law_dual (h__law_plain base) (h__law_neg base)) (He.glo_ok X G (c.fact 25 (f := .glo "_law_dual") rfl)) b__law_dual
  obtain ⟨fd__law_weight, T__law_weight⟩ := c.def_ 26 (d := d__law_weight) rfl
  have U__law_weight : Fun K "_law_weight" "_law_weight" s__law_weight (He.ga K "_law_weight") fd__law_weight := fun_of T__law_weight
  have b__law_weight : L2.Binds K fd__law_weight ["word"] [] := T__law_weight.bindsN fun _ _ _ _ _ _ us hl => match us, hl with | [_], _ => rfl
  have h__law_weight : ∀ base, Cal PySem.Challenge.pw_farwords_k12_whole_bounds_and_what_keeps w K mg base CX0 "_law_weight" ["word"] 1 (spD0 K 1 (f__law_weight)) := fun base => Cal.mk' U__law_weight (ok__law_weight B U__law_weight ) (He.glo_ok X G (c.fact 26 (f := .glo "_law_weight") rfl)) b__law_weight
  obtain ⟨fd__law_far, T__law_far⟩ := c.def_ 27 (d := d__law_far) rfl
  have U__law_far : Fun K "_law_far" "_law_far" s__law_far (He.ga K "_law_far") fd__law_far := fun_of T__law_far
  have b__law_far : L2.Binds K fd__law_far ["one", "other"] [] := T__law_far.bindsN fun _ _ _ _ _ _ us hl => match us, hl with | [_, _], _ => rfl
  have h__law_far : ∀ base, Cal PySem.Challenge.pw_farwords_k12_whole_bounds_and_what_keeps w K mg base CX0 "_law_far" ["one", "other"] 1 (spD0 K 2 (f__law_far)) := fun base => Cal.mk' U__law_far (ok__law_far B U__law_far ) (He.glo_ok X G (c.fact 27 (f := .glo "_law_far") rfl)) b__law_far
  obtain ⟨fd__law_choose, T__law_choose⟩ := c.def_ 28 (d := d__law_choose) rfl
  have U__law_choose : Fun K "_law_choose" "_law_choose" s__law_choose (He.ga K "_law_choose") fd__law_choose := fun_of T__law_choose
  have b__law_choose : L2.Binds K fd__law_choose ["many", "few"] [] := T__law_choose.bindsN fun _ _ _ _ _ _ us hl => match us, hl with | [_, _], _ => rfl
  have h__law_choose : ∀ base, Cal PySem.Challenge.pw_farwords_k12_whole_bounds_and_what_keeps w K mg base CX0 "_law_choose" ["many", "few"] 1 (spD0 K 2 (f__law_choose)) := fun base => Cal.mk' U__law_choose (ok__law_choose B U__law_choose ) (He.glo_ok X G (c.fact 28 (f := .glo "_law_choose") rfl)) b__law_choose
  obtain ⟨fd__law_power, T__law_power⟩ := c.def_ 29 (d := d__law_power) rfl
  have U__law_power : Fun K "_law_power" "_law_power" s__law_power (He.ga K "_law_power") fd__law_power := fun_of T__law_power
  have b__law_power : L2.Binds K fd__law_power ["one", "many"] [] := T__law_power.bindsN fun _ _ _ _ _ _ us hl => match us, hl with | [_, _], _ => rfl
  have h__law_power : ∀ base, Cal PySem.Challenge.pw_farwords_k12_whole_bounds_and_what_keeps w K mg base CX0 "_law_power" ["one", "many"] 1 (spD0 K 2 (f__law_power)) := fun base => Cal.mk' U__law_power (ok__law_power B U__law_power ) (He.glo_ok X G (c.fact 29 (f := .glo "_law_power") rfl)) b__law_power
  obtain ⟨fd__law_ball, T__law_ball⟩ := c.def_ 30 (d := d__law_ball) rfl
  have U__law_ball : Fun K "_law_ball" "_law_ball" s__law_ball (He.ga K "_law_ball") fd__law_ball := fun_of T__law_ball
  have b__law_ball : L2.Binds K fd__law_ball ["long", "size", "number"] [] := T__law_ball.bindsN fun _ _ _ _ _ _ us hl => match us, hl with | [_, _, _], _ => rfl
  have h__law_ball : ∀ base, Cal PySem.Challenge.pw_farwords_k12_whole_bounds_and_what_keeps w K mg base CX0 "_law_ball" ["long", "size", "number"] 2 (spD0 K 3 (f__law_ball)) := fun base => Cal.mk' U__law_ball (ok__law_ball B U__law_ball (h__law_choose base) (h__law_power base)) (He.glo_ok X G (c.fact 30 (f := .glo "_law_ball") rfl)) b__law_ball
  obtain ⟨fd__law_sums, T__law_sums⟩ := c.def_ 31 (d := d__law_sums) rfl
  have U__law_sums : Fun K "_law_sums" "_law_sums" s__law_sums (He.ga K "_law_sums") fd__law_sums := fun_of T__law_sums
  have b__law_sums : L2.Binds K fd__law_sums ["long", "size", "least"] [] := T__law_sums.bindsN fun _ _ _ _ _ _ us hl => match us, hl with | [_, _, _], _ => rfl
  have h__law_sums : ∀ base, Cal PySem.Challenge.pw_farwords_k12_whole_bounds_and_what_keeps w K mg base CX0 "_law_sums" ["long", "size", "least"] 1 (spD0 K 3 (f__law_sums)) := fun base => Cal.mk' U__law_sums (ok__law_sums B U__law_sums ) (He.glo_ok X G (c.fact 31 (f := .glo "_law_sums") rfl)) b__law_sums
  obtain ⟨fd__law_keeps, T__law_keeps⟩ := c.def_ 32 (d := d__law_keeps) rfl
  have U__law_keeps : Fun K "_law_keeps" "_law_keeps" s__law_keeps (He.ga K "_law_keeps") fd__law_keeps := fun_of T__law_keeps
  have b__law_keeps : L2.Binds K fd__law_keeps ["long", "size", "least", "many"] [] := T__law_keeps.bindsN fun _ _ _ _ _ _ us hl => match us, hl with | [_, _, _, _], _ => rfl
  have h__law_keeps : ∀ base, Cal PySem.Challenge.pw_farwords_k12_whole_bounds_and_what_keeps w K mg base CX0 "_law_keeps" ["long", "size", "least", "many"] 3 (spD0 K 4 (f__law_keeps)) := fun base => Cal.mk' U__law_keeps (ok__law_keeps B U__law_keeps (h__law_sums base) (h__law_power base) (h__law_ball base)) (He.glo_ok X G (c.fact 32 (f := .glo "_law_keeps") rfl)) b__law_keeps
  obtain ⟨fd_law, T_law⟩ := c.def_ 33 (d := d_law) rfl
  have e := hfa.symm.trans (He.glo_ok X G (c.fact 33 (f := .glo "law") rfl))
  cases e
  have bl := FunD.bindsA (ps := ["script"]) T_law fun _ _ _ _ _ _ us hl => match us, hl with | [_], _ => rfl
  have U_law : Fun K "law" "law" s_law (He.ga K "law") fd_law := fun_of T_law
  exact ⟨fd_law, fun s v => bl s [v] rfl, fun base _ _ => ok_law B U_law (h__law_state base) (h_greedy base) (x_Great base) (h_shortest base) (h_fits_bounds base) (h__law_weight base) (h__law_all base) (h__law_code base) (h__law_power base) (h_surely base) (h__law_keeps base) (h__law_words base) (h__law_far base) (h__law_pick base) (h__law_take base) (h_surely_rows base) (h__law_choose base) (h__law_ball base) (h_ball base) (h__law_sums base) (h_by_sums base) (h_by_places base) (h_by_spheres base) (h_all_bounds base) hp⟩
end FW

namespace FW
open PySem PySem.Spec L2
open PyProof.Rows hiding St
def digs (n b : Int) : Nat → List Int
  | 0 => []
  | m + 1 => (n % b) :: digs (n / b) b m
def quo (n b : Int) : Nat → Int
  | 0 => n
  | m + 1 => quo (n / b) b m
theorem digs_fold (b : Int) : ∀ (ds : List D) (n : Int) (acc : List Int) (t : Slot), ∃ t', ds.foldl (fun (s : (Int × List Int) × Slot) d => ((s.1.1 / b, s.1.2 ++ [s.1.1 % b]), Slot.dat d)) ((n, acc), t) = ((quo n b ds.length, acc ++ digs n b ds.length), t')
  | [], n, acc, t => ⟨t, by simp [quo, digs]⟩
  | d :: ds, n, acc, t => by
    obtain ⟨t', e⟩ := digs_fold b ds (n / b) (acc ++ [n % b]) (.dat d)
    refine ⟨t', ?_⟩
    rw [List.foldl_cons, e]
    simp [quo, digs]
def numOf (b : Int) (row : List Int) : Int := row.foldr (fun d acc => acc * b + d) 0
theorem number_fold (b : Int) : ∀ (row : List Int) (acc : Int) (t : Slot), ∃ t', (row.map PyData.int).foldl (fun (s : Int × Slot) d => (s.1 * b + (match d with | .int k => k | _ => 0), Slot.dat d)) (acc, t) = (row.foldl (fun acc d => acc * b + d) acc, t')
  | [], acc, t => ⟨t, rfl⟩
  | k :: row, acc, t => by
    obtain ⟨t', e⟩ := number_fold b row (acc * b + k) (.dat (.int k))
    exact ⟨t', e⟩
/-! ### the field while it is made, and made -/
def fldObj (s b m l : Int) (ns : List Str) (ds : List D) : D := obD "Field" ("size" :: "base" :: "many" :: "lead" :: ns) (.int s :: .int b :: .int m :: .int l :: ds)
theorem f_size {s b m l : Int} {ns : List Str} {ds : List D} : fldD "Field" "size" (fldObj s b m l ns ds) = some (.int s) := rfl
theorem f_base {s b m l : Int} {ns : List Str} {ds : List D} : fldD "Field" "base" (fldObj s b m l ns ds) = some (.int b) := rfl
theorem f_many {s b m l : Int} {ns : List Str} {ds : List D} : fldD "Field" "many" (fldObj s b m l ns ds) = some (.int m) := rfl
theorem f_lead {s b m l : Int} {ns : List Str} {ds : List D} : fldD "Field" "lead" (fldObj s b m l ns ds) = some (.int l) := rfl
def sumF (b : Int) (m : Nat) (x y : Int) : Int := numOf b ((List.range m).map fun k => ((digs x b m).getD k 0 + (digs y b m).getD k 0) % b)
theorem digs_length (b : Int) : ∀ (m : Nat) (n : Int), (digs n b m).length = m
  | 0, n => rfl
  | m + 1, n => by rw [digs, List.length_cons, digs_length b m]
theorem digs_get {n b : Int} {m k : Nat} (h : k < m) : ((digs n b m).map PyData.int)[k]? = some (.int ((digs n b m).getD k 0)) := by
  have hl := digs_length b m n
  rw [List.getElem?_map, List.getElem?_eq_getElem (by omega), List.getD_eq_getElem?_getD, List.getElem?_eq_getElem (by omega)]
  rfl
/-! ### products -/
theorem ix_last {r : List Int} {t : Int} : ixD (.list ((r ++ [t]).map PyData.int)) (.int (-1)) = some (.int t) := by
  rw [List.map_append]
  exact atI_last _ _
theorem sl_last {r : List Int} {t : Int} : slD (.list ((r ++ [t]).map PyData.int)) none (some (-1)) = some (.list (r.map PyData.int)) := by
  have e : slD (.list ((r ++ [t]).map PyData.int)) none (some (-1)) = some (.list (cutD ((r ++ [t]).map PyData.int) none (some (-1)))) := rfl
  rw [e]
  congr 2
  unfold cutD
  have h1 : HT.sIx ((r ++ [t]).map PyData.int).length 0 none = 0 := rfl
  have h2 : HT.sIx ((r ++ [t]).map PyData.int).length ((r ++ [t]).map PyData.int).length (some (-1)) = r.length := by
    unfold HT.sIx
    simp
    omega
  rw [h1, h2]
  simp
def shiftL (b : Int) (lead : List Int) (m : Nat) (r : List Int) (t : Int) : List Int := (List.range m).map fun k => ((0 :: r).getD k 0 + t * lead.getD k 0) % b
def mixL (b : Int) (told : List Int) (m : Nat) (sh : List Int) (digit : Int) : List Int := (List.range m).map fun k => (sh.getD k 0 + digit * told.getD k 0) % b
def stepP (b l x : Int) (m : Nat) (found : List Int) (digit : Int) : List Int := mixL b (digs x b m) m (shiftL b (digs l b m) m found.dropLast (found.getLastD 0)) digit
def prodF (b l x y : Int) (m : Nat) : Int := if m = 1 then x * y % b else numOf b ((digs y b m).reverse.foldl (stepP b l x m) (List.replicate m 0))
theorem mixL_ok {b : Int} (hb : 0 < b) (told : List Int) (m : Nat) (sh : List Int) (digit : Int) : (mixL b told m sh digit).length = m ∧ ∀ z ∈ mixL b told m sh digit, 0 ≤ z ∧ z < b := by
  unfold mixL
  refine ⟨by simp, fun z hz => ?_⟩
  obtain ⟨k, _, rfl⟩ := List.mem_map.mp hz
  exact ⟨Int.emod_nonneg _ (by omega), Int.emod_lt_of_pos _ hb⟩
theorem digs_bd {b : Int} (hb : 0 < b) : ∀ (m : Nat) (n : Int), ∀ z ∈ digs n b m, 0 ≤ z ∧ z < b
  | 0, n, z, h => by simp [digs] at h
  | m + 1, n, z, h => by
    rw [digs] at h
    rcases List.mem_cons.mp h with h | h
    · rw [h]
      exact ⟨Int.emod_nonneg _ (by omega), Int.emod_lt_of_pos _ hb⟩
    · exact digs_bd hb m _ z h
theorem snoc_of_len {r : List Int} {m : Nat} (h : r.length = m + 1) : r = r.dropLast ++ [r.getLastD 0] ∧ r.dropLast.length = m := by
  have hne : r ≠ [] := fun e => by rw [e] at h; simp at h
  refine ⟨?_, by rw [List.length_dropLast, h]; rfl⟩
  have e := List.dropLast_concat_getLast hne
  rw [List.getLastD_eq_getLast?, List.getLast?_eq_getLast hne]
  exact e.symm
def isInt : D → Int
  | .int k => k
  | _ => 0
theorem prod_fold (f : List Int → Int → List Int) (told : D) : ∀ (row : List Int) (acc : List Int) (t t2 : Slot), ∃ t' t2', (row.map PyData.int).foldl (fun (s : List Int × Slot × Slot) d => (f s.1 (isInt d), Slot.dat d, Slot.dat told)) (acc, t, t2) = (row.foldl f acc, t', t2')
  | [], acc, t, t2 => ⟨t, t2, rfl⟩
  | k :: row, acc, t, t2 => by
    obtain ⟨t', t2', e⟩ := prod_fold f told row (f acc k) (.dat (.int k)) (.dat told)
    exact ⟨t', t2', e⟩
theorem rep_flat (d : D) : ∀ m : Nat, (List.replicate m [d]).flatten = List.replicate m d
  | 0 => rfl
  | m + 1 => by rw [List.replicate_succ, List.flatten_cons, rep_flat d m]; rfl
theorem getD_int {r : List Int} {k : Nat} (h : k < r.length) : (r.map PyData.int)[k]? = some (.int (r.getD k 0)) := by
  rw [List.getElem?_map, List.getElem?_eq_getElem h, List.getD_eq_getElem?_getD, List.getElem?_eq_getElem h]
  rfl
def tabI (n : Nat) (f : Nat → Nat → Int) : D := .list ((List.range n).map fun a => .list ((List.range n).map fun c => .int (f a c)))
def fNs : List Str := ["size", "base", "many", "lead", "sums", "products"]
def sumT (b : Int) (m n : Nat) : D := tabI n fun x y => sumF b m x y
def prodT (b l : Int) (m n : Nat) : D := tabI n fun x y => prodF b l x y m
def fDs (n : Nat) (b l : Int) (m : Nat) : List D := [.int n, .int b, .int m, .int l, sumT b m n, prodT b l m n]
/-! ### the ten sizes -/
def leadOf (n : Nat) : Nat × Nat × Nat := match n with
  | 4 => (2, 2, 3)
  | 8 => (2, 3, 3)
  | 9 => (3, 2, 2)
  | 16 => (2, 4, 3)
  | n => (n, 1, 0)
def sizesN : List Nat := [2, 3, 4, 5, 7, 8, 9, 11, 13, 16]
def addT (n : Nat) (x y : Int) : Int := sumF (leadOf n).1 (leadOf n).2.1 x y
def mulT (n : Nat) (x y : Int) : Int := prodF (leadOf n).1 (leadOf n).2.2 x y (leadOf n).2.1
def fieldDs (n : Nat) : List D := fDs n (leadOf n).1 (leadOf n).2.2 (leadOf n).2.1
def fieldD (n : Nat) : D := obD "Field" fNs (fieldDs n)
end FW

namespace FW
open PySem PySem.Spec L2
open PyProof.Rows hiding St
section
variable {P : Program} {w : World} {K : PySem.W.Frag} {mg : Str → Option Value} {base : Heap}

end
end FW

namespace FW
open PySem PySem.Spec L2
open PyProof.Rows hiding St
/-! ### facts of the ten sizes -/
def fadd (n x y : Nat) : Nat := (addT n x y).toNat
def fmul (n x y : Nat) : Nat := (mulT n x y).toNat
def fneg (n x : Nat) : Nat := ((List.range n).find? fun k => fadd n x k == 0).getD 0
def finv (n x : Nat) : Nat := ((List.range n).find? fun k => fmul n x k == 1).getD 0
theorem add_facts : ∀ n ∈ sizesN, ∀ x < n, ∀ y < n, addT n x y = (fadd n x y : Nat) ∧ fadd n x y < n ∧ fadd n x y = fadd n y x := by decide +kernel
theorem mul_facts : ∀ n ∈ sizesN, ∀ x < n, ∀ y < n, mulT n x y = (fmul n x y : Nat) ∧ fmul n x y < n ∧ fmul n x y = fmul n y x := by decide +kernel
theorem neg_facts : ∀ n ∈ sizesN, ∀ x < n, fneg n x < n ∧ fadd n x (fneg n x) = 0 ∧ ∀ k < fneg n x, fadd n x k ≠ 0 := by decide +kernel
theorem inv_facts : ∀ n ∈ sizesN, ∀ x < n, x ≠ 0 → finv n x < n ∧ fmul n x (finv n x) = 1 ∧ ∀ k < finv n x, fmul n x k ≠ 1 := by decide +kernel
theorem unit_facts : ∀ n ∈ sizesN, ∀ x < n, fadd n 0 x = x ∧ fadd n x 0 = x ∧ fmul n 0 x = 0 ∧ fmul n x 0 = 0 ∧ fmul n 1 x = x ∧ fmul n x 1 = x := by decide +kernel
theorem size_facts : ∀ n ∈ sizesN, 2 ≤ n ∧ n ≤ 16 := by decide
/-! tables of four bits each -/
def bitA : Nat → Nat
  | 2 => 0x10000000000000010
  | 3 => 0x10200000000000000210000000000000210
  | 4 => 0x123000000000000103200000000000023010000000000003210
  | 5 => 0x321040000000000021043000000000001043200000000000043210000000000043210
  | 7 => 0x5432106000000000432106500000000032106540000000002106543000000000106543200000000006543210000000006543210
  | 8 => 0x12345670000000010325476000000002301674500000000321076540000000045670123000000005476103200000000674523010000000076543210
  | 9 => 0x43510276800000003540216870000000543210876000000010276843500000000216873540000000210876543000000076843510200000006873540210000000876543210
  | 11 => 0x9876543210a00000876543210a90000076543210a98000006543210a98700000543210a98760000043210a98765000003210a98765400000210a98765430000010a98765432000000a98765432100000a9876543210
  | 13 => 0xba9876543210c000a9876543210cb0009876543210cba000876543210cba900076543210cba980006543210cba987000543210cba987600043210cba987650003210cba987654000210cba987654300010cba987654320000cba987654321000cba9876543210
  | 16 => 0x123456789abcdef1032547698badcfe23016745ab89efcd32107654ba98fedc45670123cdef89ab54761032dcfe98ba67452301efcdab8976543210fedcba9889abcdef0123456798badcfe10325476ab89efcd23016745ba98fedc32107654cdef89ab45670123dcfe98ba54761032efcdab8967452301fedcba9876543210
  | _ => 0
def bitM : Nat → Nat
  | 2 => 0x100000000000000000
  | 3 => 0x12000000000000002100000000000000000
  | 4 => 0x2130000000000000132000000000000032100000000000000000
  | 5 => 0x123400000000000024130000000000003142000000000000432100000000000000000
  | 7 => 0x1234560000000000246135000000000036251400000000004152630000000000531642000000000065432100000000000000000
  | 8 => 0x346125700000000042351760000000006372415000000000152673400000000021475630000000005713642000000000765432100000000000000000
  | 9 => 0x61523748000000001386245700000000582471360000000026431875000000003271658400000000741852630000000045378612000000008765432100000000000000000
  | 11 => 0x123456789a0000002468a13579000000369147a2580000004815926a370000005a4938271600000061728394a500000073a6295184000000852a74196300000097531a8642000000a98765432100000000000000000
  | 13 => 0x123456789abc00002468ac13579b0000369c258b147a000048c37b26a15900005a27c4916b3800006c5b4a3928170000718293a4b5c6000083b6194c72a50000951a62b73c840000a741b852c9630000b97531ca86420000cba98765432100000000000000000
  | 16 => 0xa5783ce1b4692df05ba48679c23d1fe07ae36bf258c149d0843fd16a2e957bc0386d92c74f1ae5b0c6b1285f394ed7a0e7f6c5d4a3b28190192a7f4cd5e6b380bc5243ad618f9e70428ef93517dbac6063c914be8d27fa509d15ae26fb73c8402147ed8b9afc5630df9b5713eca86420fedcba98765432100000000000000000
  | _ => 0
def fA (n x y : Nat) : Nat := bitA n / 16 ^ (16 * x + y) % 16
def fM (n x y : Nat) : Nat := bitM n / 16 ^ (16 * x + y) % 16
theorem fA_eq : ∀ n ∈ sizesN, ∀ x < n, ∀ y < n, fadd n x y = fA n x y := by decide +kernel
theorem fM_eq : ∀ n ∈ sizesN, ∀ x < n, ∀ y < n, fmul n x y = fM n x y := by decide +kernel
theorem ring_facts0 : ∀ n ∈ sizesN, ∀ x < n, ∀ y < n, ∀ z < n, fA n (fA n x y) z = fA n x (fA n y z) ∧ fM n (fM n x y) z = fM n x (fM n y z) ∧ fM n x (fA n y z) = fA n (fM n x y) (fM n x z) := by decide +kernel
theorem ring_facts {n x y z : Nat} (hn : n ∈ sizesN) (hx : x < n) (hy : y < n) (hz : z < n) : fadd n (fadd n x y) z = fadd n x (fadd n y z) ∧ fmul n (fmul n x y) z = fmul n x (fmul n y z) ∧ fmul n x (fadd n y z) = fadd n (fmul n x y) (fmul n x z) := by
  have h := ring_facts0 n hn x hx y hy z hz
  have a1 := (add_facts n hn x hx y hy).2.1
  have a2 := (add_facts n hn y hy z hz).2.1
  have m1 := (mul_facts n hn x hx y hy).2.1
  have m2 := (mul_facts n hn y hy z hz).2.1
  have m3 := (mul_facts n hn x hx z hz).2.1
  rw [← fA_eq n hn x hx y hy, ← fA_eq n hn y hy z hz, ← fM_eq n hn x hx y hy, ← fM_eq n hn y hy z hz, ← fM_eq n hn x hx z hz, ← fA_eq n hn _ a1 z hz, ← fA_eq n hn x hx _ a2, ← fM_eq n hn _ m1 z hz, ← fM_eq n hn x hx _ m2, ← fM_eq n hn x hx _ a2, ← fA_eq n hn _ m1 _ m3] at h
  exact h
end FW

namespace FW
open PySem PySem.Spec L2
open PyProof.Rows hiding St
/-! ### the methods of a field -/
def rowI (n : Nat) (g : Nat → Nat) : D := .list ((List.range n).map fun c => .int (g c : Nat))
def tabN (n : Nat) (f : Nat → Nat → Nat) : D := .list ((List.range n).map fun a => rowI n (f a))
theorem ix_row {n y : Nat} {g : Nat → Nat} (hy : y < n) : ixD (rowI n g) (.int (y : Nat)) = some (.int (g y : Nat)) := by
  refine ixD_l ?_
  rw [List.getElem?_map, List.getElem?_range hy]
  rfl
theorem ix_tab {n x : Nat} {f : Nat → Nat → Nat} (hx : x < n) : ixD (tabN n f) (.int (x : Nat)) = some (rowI n (f x)) := by
  refine ixD_l ?_
  rw [List.getElem?_map, List.getElem?_range hx]
  rfl
theorem tab_eq {n : Nat} {f : Nat → Nat → Int} {g : Nat → Nat → Nat} (h : ∀ x < n, ∀ y < n, f x y = (g x y : Nat)) : tabI n f = tabN n g := by
  unfold tabI tabN rowI
  congr 1
  refine List.map_congr_left fun x hx => ?_
  congr 1
  refine List.map_congr_left fun y hy => ?_
  rw [h x (List.mem_range.mp hx) y (List.mem_range.mp hy)]
section
variable {n x y : Nat}
theorem f_sums (hn : n ∈ sizesN) : fldD "Field" "sums" (fieldD n) = some (tabN n (fadd n)) := by
  have e : fldD "Field" "sums" (fieldD n) = some (sumT (leadOf n).1 (leadOf n).2.1 n) := rfl
  rw [e]
  exact congrArg some (tab_eq (f := fun x y => addT n x y) fun x hx y hy => (add_facts n hn x hx y hy).1)
theorem f_products (hn : n ∈ sizesN) : fldD "Field" "products" (fieldD n) = some (tabN n (fmul n)) := by
  have e : fldD "Field" "products" (fieldD n) = some (prodT (leadOf n).1 (leadOf n).2.2 (leadOf n).2.1 n) := rfl
  rw [e]
  exact congrArg some (tab_eq (f := fun x y => mulT n x y) fun x hx y hy => (mul_facts n hn x hx y hy).1)
theorem f_fsize : fldD "Field" "size" (fieldD n) = some (.int n) := rfl
/-! ### sums of rows -/
def ftot (n : Nat) (r : List Nat) : Nat := r.foldl (fadd n) 0
theorem tot_lt {n : Nat} (hn : n ∈ sizesN) : ∀ (r : List Nat) (a : Nat), (∀ z ∈ r, z < n) → a < n → r.foldl (fadd n) a < n
  | [], a, _, ha => ha
  | z :: r, a, h, ha => tot_lt hn r _ (fun w hw => h w (.tail _ hw)) (add_facts n hn a ha z (h z (.head _))).2.1
theorem total_fold (n : Nat) : ∀ (r : List Nat) (acc : Nat) (t : Slot), ∃ t', (r.map nI).foldl (fun (s : Nat × Slot) d => (fadd n s.1 (match d with | .int k => k.toNat | _ => 0), Slot.dat d)) (acc, t) = (r.foldl (fadd n) acc, t')
  | [], acc, t => ⟨t, rfl⟩
  | k :: r, acc, t => by
    obtain ⟨t', e⟩ := total_fold n r (fadd n acc k) (.dat (nI k))
    exact ⟨t', e⟩
def fdot (n : Nat) (xs ys : List Nat) : Nat := ftot n ((List.range xs.length).map fun k => fmul n (xs.getD k 0) (ys.getD k 0))
theorem getD_lt {n : Nat} {xs : List Nat} {k : Nat} (h : ∀ z ∈ xs, z < n) (hk : k < xs.length) : xs.getD k 0 < n := by
  rw [List.getD_eq_getElem?_getD, List.getElem?_eq_getElem hk]
  exact h _ (List.getElem_mem hk)
end
end FW

namespace FW
open PySem PySem.Spec L2
open PyProof.Rows hiding St
/-! ### powers -/
def fpow (n x : Nat) : Nat → Nat
  | 0 => 1
  | k + 1 => fmul n (fpow n x k) x
section
variable {n x y : Nat}
theorem fpow_lt (hn : n ∈ sizesN) (hx : x < n) : ∀ k, fpow n x k < n
  | 0 => by have := (size_facts n hn).1; show 1 < n; omega
  | k + 1 => (mul_facts n hn _ (fpow_lt hn hx k) x hx).2.1
theorem fpow_add (hn : n ∈ sizesN) (hx : x < n) (j : Nat) : ∀ k, fpow n x (j + k) = fmul n (fpow n x j) (fpow n x k)
  | 0 => by
    show fpow n x j = fmul n (fpow n x j) 1
    rw [(unit_facts n hn _ (fpow_lt hn hx j)).2.2.2.2.2]
  | k + 1 => by
    show fmul n (fpow n x (j + k)) x = fmul n (fpow n x j) (fmul n (fpow n x k) x)
    rw [fpow_add hn hx j k, (ring_facts hn (fpow_lt hn hx j) (fpow_lt hn hx k) hx).2.1]
theorem bits_fold : ∀ (ds : List Int) (acc : Int) (a : Nat), (∀ z ∈ ds, 0 ≤ z ∧ z < 2) → acc = (a : Nat) → ds.foldl (fun acc d => acc * 2 + d) acc = (ds.foldl (fun e d => 2 * e + d.toNat) a : Nat)
  | [], acc, a, _, h => h
  | z :: ds, acc, a, hz, h => by
    have := hz z (.head _)
    exact bits_fold ds _ _ (fun w hw => hz w (.tail _ hw)) (by show acc * 2 + z = ((2 * a + z.toNat : Nat) : Int); omega)
theorem numOf_digs (b : Int) (hb : 0 < b) : ∀ (m : Nat) (k : Int), 0 ≤ k → k < b ^ m → numOf b (digs k b m) = k
  | 0, k, h0, h1 => by
    have h1' : k < 1 := by rw [Int.pow_zero] at h1; exact h1
    have : k = 0 := by omega
    rw [this]
    rfl
  | m + 1, k, h0, h1 => by
    have h2 : k / b < b ^ m := by
      refine Int.ediv_lt_of_lt_mul hb ?_
      rw [← Int.pow_succ]
      exact h1
    have ih := numOf_digs b hb m (k / b) (Int.ediv_nonneg h0 (by omega)) h2
    show numOf b (digs (k / b) b m) * b + k % b = k
    rw [ih, Int.mul_comm]
    exact Int.mul_ediv_add_emod k b
theorem pow_fold (n x : Nat) : ∀ (ds : List Int) (e : Nat) (t : Slot), ∃ t', (ds.map PyData.int).foldl (fun (s : Nat × Slot) d => (2 * s.1 + (isInt d).toNat, Slot.dat d)) (e, t) = (ds.foldl (fun e d => 2 * e + d.toNat) e, t')
  | [], e, t => ⟨t, rfl⟩
  | k :: ds, e, t => by
    obtain ⟨t', q⟩ := pow_fold n x ds (2 * e + k.toNat) (.dat (.int k))
    exact ⟨t', q⟩

end
end FW

namespace FW
open PySem PySem.Spec L2
open PyProof.Rows hiding St
/-! ### orders, generators, logs -/
def ford (n x : Nat) : Nat := ((List.range n).find? fun k => fpow n x (k + 1) == 1).getD 0 + 1
def fgens (n : Nat) : List Nat := ((List.range (n - 1)).map (1 + ·)).filter fun x => ford n x == n - 1
def flog (n g y : Nat) : Nat := ((List.range n).find? fun k => fpow n g k == y).getD 0
theorem ord_facts : ∀ n ∈ sizesN, ∀ x < n, x ≠ 0 → fpow n x (ford n x) = 1 ∧ ford n x < n ∧ ∀ k < ford n x - 1, fpow n x (k + 1) ≠ 1 := by decide +kernel
theorem log_facts : ∀ n ∈ sizesN, ∀ g ∈ fgens n, ∀ y < n, y ≠ 0 → fpow n g (flog n g y) = y ∧ flog n g y < n - 1 ∧ ∀ k < flog n g y, fpow n g k ≠ y := by decide +kernel
section
variable {n x y : Nat}
theorem fgens_lt {g : Nat} (h : g ∈ fgens n) : g < n ∧ g ≠ 0 := by
  unfold fgens at h
  have h1 := (List.mem_filter.mp h).1
  obtain ⟨k, hk, rfl⟩ := List.mem_map.mp h1
  have := List.mem_range.mp hk
  omega

end
end FW

namespace FW
open PySem PySem.Spec L2
open PyProof.Rows hiding St
theorem dec0 (k : Nat) : (!decide ((k : Int) = 0)) = (k != 0) := by
  rw [Bool.eq_iff_iff]
  simp
def fdist (xs ys : List Nat) : Nat := ((List.range xs.length).filter fun k => xs.getD k 0 != ys.getD k 0).length
theorem decN (k l : Nat) : (!decide ((k : Int) = l)) = (k != l) := by
  rw [Bool.eq_iff_iff]
  simp
  omega
def fsup (xs : List Nat) : List Nat := (List.range xs.length).filter fun k => xs.getD k 0 != 0
end FW

namespace FW
open PySem PySem.Spec L2
open PyProof.Rows hiding St
/-! ### the law's own helpers -/
theorem law_digits_eq {n b : Int} {m : Nat} (hb : 0 < b) (hb2 : b < 2 ^ 200) (hm : m < 1000) : f__law_digits [.int n, .int b, .int m] = .ok (.list ((digs n b m).map PyData.int)) := by
  refine RsK.eq (R_run2 ?_)
  show Wp b__law_digits [.dat (.int n), .dat (.int b), .dat (.int m), .un, .un] _
  unfold b__law_digits
  simp only [↓kPre, kPost, rng1_ok (n := m) (by omega)]
  refine W_forI (st := fun (s : (Int × List Int) × Slot) => [.dat (.int s.1.1), .dat (.int b), .dat (.int m), .own (s.1.2.map PyData.int), s.2]) (step := fun s d => ((s.1.1 / b, s.1.2 ++ [s.1.1 % b]), .dat d)) (I := fun i s => s.1.2.length = i) ((n, []), .un) rfl (fun i d hd s hI => ?_) (fun hI => ?_)
  · have hi : i < m := by
      have := (List.getElem?_eq_some_iff.mp hd).1
      simpa using this
    refine ⟨by simp [hI], _, rfl, ?_⟩
    simp only [↓kPre, kPost, intD_i, modD_ii hb, fdivD_ii hb hb2, app_map PyData.int (xs := s.1.2) (by omega)]
    simp
  · obtain ⟨t', e⟩ := digs_fold b ((List.range m).map fun i => PyData.int (i : Nat)) n [] .un
    rw [e]
    simp only [↓kPre, kPost, List.length_map, List.length_range, List.nil_append]
def lawLead : Nat → Nat × Nat × List Nat
  | 4 => (2, 2, [1, 1])
  | 8 => (2, 3, [1, 1, 0])
  | 9 => (3, 2, [2, 0])
  | 16 => (2, 4, [1, 1, 0, 0])
  | n => (n, 1, [0])
theorem lawLead_facts : ∀ n ∈ sizesN, 2 ≤ (lawLead n).1 ∧ (lawLead n).1 < 100 ∧ 1 ≤ (lawLead n).2.1 ∧ (lawLead n).2.1 ≤ 4 ∧ (lawLead n).2.2.length = (lawLead n).2.1 ∧ ∀ z ∈ (lawLead n).2.2, z < 10 := by decide
def pows (b : Int) : List Int := [1, b, b * b, b * b * b]
def lval (b : Int) (m : Nat) (r : List Int) : Int := ((List.range m).map fun k => (r.getD k 0 % b) * (pows b).getD k 0).sum
def lsum (b : Int) (m : Nat) (x y : Int) : Int := ((List.range m).map fun k => (((digs x b m).getD k 0 + (digs y b m).getD k 0) % b) * (pows b).getD k 0).sum
def lconv (o p : List Int) (m : Nat) (r : List Int) : List Int := (List.range m).foldl (fun r i => (List.range m).foldl (fun r j => r.set (i + j) (r.getD (i + j) 0 + o.getD i 0 * p.getD j 0)) r) r
def lred (L : List Nat) (m : Nat) (r : List Int) : List Int := ((List.range (m - 1)).map fun k => m + k).reverse.foldl (fun r k => (List.range m).foldl (fun r j => r.set (k - m + j) (r.getD (k - m + j) 0 + r.getD k 0 * (L.getD j 0 : Nat))) r) r
def lrow (b : Int) (L : List Nat) (m : Nat) (x y : Int) : List Int := lred L m (lconv (digs x b m) (digs y b m) m (List.replicate (2 * m - 1) 0))
def lprod (b : Int) (L : List Nat) (m : Nat) (x y : Int) : Int := lval b m (lrow b L m x y)
theorem law_tab_facts : ∀ n ∈ sizesN, ∀ x < n, ∀ y < n, lsum (lawLead n).1 (lawLead n).2.1 x y = (fadd n x y : Nat) ∧ lprod (lawLead n).1 (lawLead n).2.2 (lawLead n).2.1 x y = (fmul n x y : Nat) := by decide +kernel
end FW

namespace FW
open PySem PySem.Spec L2
open PyProof.Rows hiding St
def lawF (n : Nat) : D := .tuple [tabN n (fadd n), tabN n (fmul n)]
theorem lawF_0 {n : Nat} : ixD (lawF n) (.int 0) = some (tabN n (fadd n)) := rfl
theorem lawF_1 {n : Nat} : ixD (lawF n) (.int 1) = some (tabN n (fmul n)) := rfl
theorem fold_len {α : Type} (f : List Int → α → List Int) (hf : ∀ r x, (f r x).length = r.length) : ∀ (xs : List α) (r : List Int), (xs.foldl f r).length = r.length
  | [], r => rfl
  | x :: xs, r => by rw [List.foldl_cons, fold_len f hf xs, hf]
theorem ix_pows {b : Int} {k : Nat} (hk : k < 4) : ixD (.list [.int 1, .int b, .int (b * b), .int (b * b * b)]) (.int k) = some (.int ((pows b).getD k 0)) := ix_i (row := pows b) hk
theorem rep0 {m : Nat} (h : m < 1000) : repF (.list [.int 0]) (.int m) = some ((List.replicate m (0 : Int)).map PyData.int) := by
  have : (1000 : Nat) < sizeLine := by decide
  have e : repF (.list [.int 0]) (.int m) = (if -(2 ^ 63) ≤ (m : Int) ∧ (m : Int) < 2 ^ 63 ∧ [PyData.int 0].length * (m : Int).toNat ≤ sizeLine then some (List.replicate (m : Int).toNat [PyData.int 0]).flatten else none) := rfl
  rw [e, if_pos ⟨by omega, by omega, by simp; omega⟩, Int.toNat_natCast, List.map_replicate, rep_flat]
def getLead (n : Nat) : Option D := match n with
  | 4 => some (.tuple [.int 2, .int 2, .list [.int 1, .int 1]])
  | 8 => some (.tuple [.int 2, .int 3, .list [.int 1, .int 1, .int 0]])
  | 9 => some (.tuple [.int 3, .int 2, .list [.int 2, .int 0]])
  | 16 => some (.tuple [.int 2, .int 4, .list [.int 1, .int 1, .int 0, .int 0]])
  | _ => none
theorem getLead_eq {n : Nat} (hn : n ∈ sizesN) : (getLead n).getD (.tuple [.int n, .int 1, .list [.int 0]]) = .tuple [.int (lawLead n).1, .int (lawLead n).2.1, .list ((lawLead n).2.2.map nI)] := by
  have hn2 : n = 2 ∨ n = 3 ∨ n = 4 ∨ n = 5 ∨ n = 7 ∨ n = 8 ∨ n = 9 ∨ n = 11 ∨ n = 13 ∨ n = 16 := by simpa [sizesN] using hn
  rcases hn2 with rfl | rfl | rfl | rfl | rfl | rfl | rfl | rfl | rfl | rfl <;> rfl
theorem law_field_eq {n : Nat} (hn : n ∈ sizesN) : f__law_field [.int n] = .ok (lawF n) := by
  refine RsK.eq (R_run2 ?_)
  show Wp b__law_field [.dat (.int n), .un, .un, .un, .un, .un, .un, .un, .un, .un, .un, .un, .un, .un, .un, .un] _
  unfold b__law_field
  simp only [↓kPre, kPost]
  refine OpK.of rfl ?_
  refine AndK.of rfl ?_
  simp only [↓kPre, kPost]
  have hn2 : n = 2 ∨ n = 3 ∨ n = 4 ∨ n = 5 ∨ n = 7 ∨ n = 8 ∨ n = 9 ∨ n = 11 ∨ n = 13 ∨ n = 16 := by simpa [sizesN] using hn
  refine OpK.of (a := getLead n) (by rcases hn2 with rfl | rfl | rfl | rfl | rfl | rfl | rfl | rfl | rfl | rfl <;> rfl) ?_
  rw [getLead_eq hn]
  obtain ⟨f1, f2, f3, f4, f5, f6⟩ := lawLead_facts n hn
  have hT := law_tab_facts n hn
  generalize (lawLead n).1 = b at f1 f2 hT ⊢
  generalize (lawLead n).2.1 = m at f3 f4 f5 hT ⊢
  generalize (lawLead n).2.2 = L at f5 f6 hT ⊢
  have hsz := size_facts n hn
  simp only [↓kPre, kPost, rng1_ok (n := n) (by omega), list_range]
  have hb1 : -(2 ^ 64) < (b : Int) ∧ (b : Int) < 2 ^ 64 := by omega
  have hb0 : (0 : Int) < (b : Int) := by omega
  have hc2 : (2 * (m : Int) - 1) = ((2 * m - 1 : Nat) : Int) := by omega
  have hL : ∀ j, j < m → L.getD j 0 < 10 := fun j hj => f6 _ (by rw [List.getD_eq_getElem?_getD, List.getElem?_eq_getElem (by omega)]; exact List.getElem_mem _)
  refine W_forN n (st := fun i (c : Option D × Option D × Option D × Option D × Option D × Option D × Slot × Option D × Option D × Option D) => [.dat (.int n), .dat (.int b), .dat (.int m), .dat (.list (L.map nI)), .own ((List.range i).map fun a => rowI n (fadd n a)), .own ((List.range i).map fun a => rowI n (fmul n a)), gv c.1, gv c.2.1, gv c.2.2.1, gv c.2.2.2.1, gv c.2.2.2.2.1, gv c.2.2.2.2.2.1, c.2.2.2.2.2.2.1, gv c.2.2.2.2.2.2.2.1, gv c.2.2.2.2.2.2.2.2.1, gv c.2.2.2.2.2.2.2.2.2]) (none, none, none, none, none, none, .un, none, none, none) (fun x hx c => ?_) (fun c => ?_)
  · refine ⟨_, rfl, ?_⟩
    simp only [↓kPre, kPost, nI_eq, rng1_ok (n := n) (by omega), list_range]
    refine W_forN n (st := fun i (c' : Option D × Option D × Option D × Slot × Option D × Option D × Option D) => [.dat (.int n), .dat (.int b), .dat (.int m), .dat (.list (L.map nI)), .own ((List.range x).map fun a => rowI n (fadd n a)), .own ((List.range x).map fun a => rowI n (fmul n a)), .dat (.int x), .own ((List.range i).map fun y : Nat => .int (lsum b m x y)), .own ((List.range i).map fun y : Nat => .int (lprod b L m x y)), gv c'.1, gv c'.2.1, gv c'.2.2.1, c'.2.2.2.1, gv c'.2.2.2.2.1, gv c'.2.2.2.2.2.1, gv c'.2.2.2.2.2.2]) (c.2.2.2.1, c.2.2.2.2.1, c.2.2.2.2.2.1, c.2.2.2.2.2.2.1, c.2.2.2.2.2.2.2.1, c.2.2.2.2.2.2.2.2.1, c.2.2.2.2.2.2.2.2.2) (fun y hy c' => ?_) (fun c' => ?_)
    · refine ⟨_, rfl, ?_⟩
      have d1 := law_digits_eq (n := (x : Int)) (b := b) (m := m) hb0 (by omega) (by omega)
      have d2 := law_digits_eq (n := (y : Int)) (b := b) (m := m) hb0 (by omega) (by omega)
      simp only [↓kPre, kPost, nI_eq, d1, d2]
      refine E_mapG nI (List.range m) (fun k => .int ((((digs x b m).getD k 0 + (digs y b m).getD k 0) % b) * (pows b).getD k 0)) ?_ (by simp) (by simp [plainAt, plain_gv]) (by simp; omega) (fun k hk => ?_) ?_
      · simp only [↓kPre, kPost, rng1_ok (n := m) (by omega), list_range, and_self]
      · have hk := List.mem_range.mp hk
        have hm := Int.emod_nonneg ((digs x b m).getD k 0 + (digs y b m).getD k 0) (b := (b : Int)) (by omega)
        have hm2 := Int.emod_lt_of_pos ((digs x b m).getD k 0 + (digs y b m).getD k 0) hb0
        have q1 := ixD_l (digs_get (n := x) (b := b) hk)
        have q2 := ixD_l (digs_get (n := y) (b := b) hk)
        simp only [↓kPre, kPost, nI_eq, q1, q2, intD_i, modD_ii hb0, mulD_ii (i := (b : Int)) (.inl hb1), mulD_ii (j := (b : Int)) (.inr hb1), ix_pows (show k < 4 by omega), mulD_ii (i := ((digs x b m).getD k 0 + (digs y b m).getD k 0) % b) (.inl ⟨by omega, by omega⟩), and_self]
      simp only [↓kPre, kPost, sumD_mapf]
      refine OpK.of (app_range (f := fun y : Nat => .int (lsum b m x y)) (i := y) (by omega)) ?_
      simp only [↓kPre, kPost, mulD_ii (i := 2) (.inl (by omega)), hc2, rep0 (show 2 * m - 1 < 1000 by omega), rng1_ok (n := m) (by omega), list_range]
      have hlen : (List.replicate (2 * m - 1) (0 : Int)).length = 2 * m - 1 := List.length_replicate
      have hset : ∀ (r : List Int) (p : Nat) (v : Int), (r.set p v).length = r.length := fun r p v => List.length_set
      let P : List Int → Option D × Option D × Option D → List Slot := fun r e => [.dat (.int n), .dat (.int b), .dat (.int m), .dat (.list (L.map nI)), .own ((List.range x).map fun a => rowI n (fadd n a)), .own ((List.range x).map fun a => rowI n (fmul n a)), .dat (.int x), .own ((List.range (y + 1)).map fun y : Nat => .int (lsum b m x y)), .own ((List.range y).map fun y : Nat => .int (lprod b L m x y)), .dat (.int y),
        .dat (.list ((digs x b m).map PyData.int)), .dat (.list ((digs y b m).map PyData.int)), .own (r.map PyData.int), gv e.1, gv e.2.1, gv e.2.2]
      refine W_forE nI (st := P) (step := fun r i => (List.range m).foldl (fun r j => r.set (i + j) (r.getD (i + j) 0 + (digs x b m).getD i 0 * (digs y b m).getD j 0)) r) (I := fun _ r => r.length = 2 * m - 1) _ (_, _, _) hlen (fun i x' hi r e hr => ?_) (fun e hr => ?_)
      · obtain ⟨hi', rfl⟩ : i < m ∧ i = x' := by
          obtain ⟨h1, h2⟩ := List.getElem?_eq_some_iff.mp hi
          rw [List.length_range] at h1
          rw [List.getElem_range] at h2
          exact ⟨h1, h2⟩
        refine ⟨(fold_len _ (fun r j => hset _ _ _) _ _).trans hr, _, rfl, ?_⟩
        simp only [P, ↓kPre, kPost, nI_eq, rng1_ok (n := m) (by omega), list_range]
        refine W_forE nI (st := fun r e => P r (some (.int (i : Nat)), e)) (step := fun r j => r.set (i + j) (r.getD (i + j) 0 + (digs x b m).getD i 0 * (digs y b m).getD j 0)) (I := fun _ r => r.length = 2 * m - 1) r (_, _) hr (fun j y' hj r e hr => ?_) (fun e hr => ?_)
        · obtain ⟨hj', rfl⟩ : j < m ∧ j = y' := by
            obtain ⟨h1, h2⟩ := List.getElem?_eq_some_iff.mp hj
            rw [List.length_range] at h1
            rw [List.getElem_range] at h2
            exact ⟨h1, h2⟩
          refine ⟨(hset _ _ _).trans hr, _, rfl, ?_⟩
          have hc3 : (i : Int) + (j : Int) = ((i + j : Nat) : Int) := by omega
          have hd := digs_bd hb0 m (x : Int) ((digs x b m).getD i 0) (by rw [List.getD_eq_getElem?_getD, List.getElem?_eq_getElem (by rw [digs_length]; exact hi')]; exact List.getElem_mem _)
          have q1 := ixD_l (digs_get (n := x) (b := b) hi')
          have q2 := ixD_l (digs_get (n := y) (b := b) hj')
          simp only [P, gv, ↓kPre, kPost, nI_eq, hc3, q1, q2, ix_i (row := r) (p := i + j) (by omega), mulD_ii (i := (digs x b m).getD i 0) (.inl ⟨by omega, by omega⟩), setAt_i (row := r) (p := i + j) (by omega)]
          exact ⟨(some _, _), .inl rfl⟩
        · simp only [↓kPre, kPost]
          exact ⟨_, .inl rfl⟩
      have hrng : lr2 (.int (m : Nat)) (.int ((2 * m - 1 : Nat) : Int)) = some ((List.range (m - 1)).map fun k => nI (m + k)) := by
        have e := lr2_ok (i := m) (j := 2 * m - 1) (by omega) (by omega)
        rw [show 2 * m - 1 - m = m - 1 by omega] at e
        exact e
      have hrev : revX (.list ((List.range (m - 1)).map fun k => nI (m + k))) = some (.list (((List.range (m - 1)).map fun k => m + k).reverse.map nI)) := by
        show some (PyData.list _) = _
        rw [← List.map_reverse, ← List.map_reverse, List.map_map]
        rfl
      simp only [P, ↓kPre, kPost, mulD_ii (i := 2) (.inl (by omega)), hc2, hrng, hrev, walk_l]
      have hr0 : (lconv (digs x b m) (digs y b m) m (List.replicate (2 * m - 1) 0)).length = 2 * m - 1 := hr
      refine W_forE nI (st := fun r e => P r e) (step := fun r k => (List.range m).foldl (fun r j => r.set (k - m + j) (r.getD (k - m + j) 0 + r.getD k 0 * (L.getD j 0 : Nat))) r) (I := fun _ r => r.length = 2 * m - 1) (lconv (digs x b m) (digs y b m) m (List.replicate (2 * m - 1) 0)) (_, _, _) hr0 (fun i k hk r e hr => ?_) (fun e hr => ?_)
      · have hk := List.mem_of_getElem? hk
        rw [List.mem_reverse] at hk
        obtain ⟨k', hk', rfl⟩ := List.mem_map.mp hk
        have hk' := List.mem_range.mp hk'
        refine ⟨(fold_len _ (fun r j => hset _ _ _) _ _).trans hr, _, rfl, ?_⟩
        simp only [P, ↓kPre, kPost, nI_eq, rng1_ok (n := m) (by omega), list_range]
        refine W_forE nI (st := fun r (e' : Option D) => P r (e.1, e', some (.int ((m + k' : Nat) : Int)))) (step := fun r j => r.set (m + k' - m + j) (r.getD (m + k' - m + j) 0 + r.getD (m + k') 0 * (L.getD j 0 : Nat))) (I := fun _ r => r.length = 2 * m - 1) r _ hr (fun j y' hj r e' hr => ?_) (fun e' hr => ?_)
        · obtain ⟨hj', rfl⟩ : j < m ∧ j = y' := by
            obtain ⟨h1, h2⟩ := List.getElem?_eq_some_iff.mp hj
            rw [List.length_range] at h1
            rw [List.getElem_range] at h2
            exact ⟨h1, h2⟩
          refine ⟨(hset _ _ _).trans hr, _, rfl, ?_⟩
          have hc3 : ((m + k' : Nat) : Int) - (m : Int) + (j : Int) = ((m + k' - m + j : Nat) : Int) := by omega
          have hl := hL j hj'
          have q2 := (show Row (.list (L.map nI)) L from .inl rfl).ix (k := j) (by omega)
          simp only [P, gv, ↓kPre, kPost, nI_eq, hc3, q2, ix_i (row := r) (p := m + k' - m + j) (by omega), ix_i (row := r) (p := m + k') (by omega), mulD_ii (j := ((L.getD j 0 : Nat) : Int)) (.inr ⟨by omega, by omega⟩), setAt_i (row := r) (p := m + k' - m + j) (by omega)]
          exact ⟨some _, .inl rfl⟩
        · simp only [↓kPre, kPost]
          exact ⟨_, .inl rfl⟩
      have hr1 : (lrow b L m x y).length = 2 * m - 1 := hr
      simp only [P, ↓kPre, kPost]
      refine E_mapG nI (List.range m) (fun k => .int (((lrow b L m x y).getD k 0 % b) * (pows b).getD k 0)) ?_ (by simp) (by simp [plainAt, plain_gv]) (by simp; omega) (fun k hk => ?_) ?_
      · simp only [↓kPre, kPost, rng1_ok (n := m) (by omega), list_range, and_self]
      · have hk := List.mem_range.mp hk
        have hm := Int.emod_nonneg ((lrow b L m x y).getD k 0) (b := (b : Int)) (by omega)
        have hm2 := Int.emod_lt_of_pos ((lrow b L m x y).getD k 0) hb0
        have q1 : ixD (.list (((((List.range (m - 1)).map fun k => m + k).reverse).foldl (fun r k => (List.range m).foldl (fun r j => r.set (k - m + j) (r.getD (k - m + j) 0 + r.getD k 0 * (L.getD j 0 : Nat))) r) (lconv (digs x b m) (digs y b m) m (List.replicate (2 * m - 1) 0))).map PyData.int)) (.int (k : Nat)) = some (.int ((lrow b L m x y).getD k 0)) := ix_i (row := lrow b L m x y) (p := k) (by omega)
        simp only [↓kPre, kPost, nI_eq, q1, intD_i, modD_ii hb0, mulD_ii (i := (b : Int)) (.inl hb1), mulD_ii (j := (b : Int)) (.inr hb1), ix_pows (show k < 4 by omega), mulD_ii (i := (lrow b L m x y).getD k 0 % b) (.inl ⟨by omega, by omega⟩), and_self]
      simp only [↓kPre, kPost, sumD_mapf]
      refine OpK.of (app_range (f := fun y : Nat => .int (lprod b L m x y)) (i := y) (by omega)) ?_
      simp only [↓kPre, kPost]
      exact ⟨(some _, some _, some _, _, _, _, _), .inl rfl⟩
    · have h1 : ((List.range n).map fun y : Nat => PyData.int (lsum b m x y)) = (List.range n).map fun c => .int (fadd n x c : Nat) := List.map_congr_left fun y hy => by rw [(hT x hx y (List.mem_range.mp hy)).1]
      have h2 : ((List.range n).map fun y : Nat => PyData.int (lprod b L m x y)) = (List.range n).map fun c => .int (fmul n x c : Nat) := List.map_congr_left fun y hy => by rw [(hT x hx y (List.mem_range.mp hy)).2]
      simp only [↓kPre, kPost, h1, h2]
      refine OpK.of (app_range (f := fun a => rowI n (fadd n a)) (i := x) (by omega)) ?_
      simp only [↓kPre, kPost]
      refine OpK.of (app_range (f := fun a => rowI n (fmul n a)) (i := x) (by omega)) ?_
      simp only [↓kPre, kPost]
      exact ⟨(some _, some _, some _, _, _, _, _, _, _, _), .inl rfl⟩
  · simp only [↓kPre, kPost]
    rfl
theorem law_neg_eq {n x : Nat} (hn : n ∈ sizesN) (hx : x < n) : f__law_neg [lawF n, .int x] = .ok (.int (fneg n x : Nat)) := by
  refine RsK.eq (R_run2 ?_)
  show Wp b__law_neg [.dat (lawF n), .dat (.int x)] _
  unfold b__law_neg
  obtain ⟨h1, h2, h3⟩ := neg_facts n hn x hx
  simp only [↓kPre, kPost, lawF_0, ix_tab hx]
  refine ⟨_, rfl, ?_⟩
  simp only [↓kPre, kPost]
  exact OpK.of (idx_first (v := 0) h1 h2 h3) rfl
def fdotL (n : Nat) (xs ys : List Nat) (k : Nat) : Nat := (List.range k).foldl (fun s k => fadd n s (fmul n (xs.getD k 0) (ys.getD k 0))) 0
theorem fdotL_lt {n : Nat} (hn : n ∈ sizesN) {xs ys : List Nat} (hx : ∀ z ∈ xs, z < n) (hy : ∀ z ∈ ys, z < n) (hl : xs.length ≤ ys.length) : ∀ k ≤ xs.length, fdotL n xs ys k < n
  | 0, _ => by have := (size_facts n hn).1; show 0 < n; omega
  | k + 1, hk => by
    unfold fdotL
    rw [List.range_succ, List.foldl_append]
    exact (add_facts n hn _ (fdotL_lt hn hx hy hl k (by omega)) _ (mul_facts n hn _ (getD_lt hx (by omega)) _ (getD_lt hy (by omega))).2.1).2.1
theorem fdotL_eq {n : Nat} {xs ys : List Nat} : fdotL n xs ys xs.length = fdot n xs ys := by
  unfold fdotL fdot ftot
  rw [List.foldl_map]
theorem law_dot_eq {n : Nat} {a b : D} {xs ys : List Nat} (hn : n ∈ sizesN) (ha : Row a xs) (hb : Row b ys) (hx : ∀ z ∈ xs, z < n) (hy : ∀ z ∈ ys, z < n) (hl : xs.length ≤ ys.length) (hs : xs.length ≤ 1000000) : f__law_dot [lawF n, a, b] = .ok (.int (fdot n xs ys : Nat)) := by
  refine RsK.eq (R_run2 ?_)
  show Wp b__law_dot [.dat (lawF n), .dat a, .dat b, .un, .un] _
  unfold b__law_dot
  simp only [↓kPre, kPost, ha.len, rng1_ok (n := xs.length) (by omega), list_range]
  refine W_forN xs.length (st := fun i (c : Option D) => [.dat (lawF n), .dat a, .dat b, .dat (.int (fdotL n xs ys i : Nat)), gv c]) none (fun i hi c => ?_) (fun c => ?_)
  · refine ⟨_, rfl, ?_⟩
    have h1 := getD_lt hx hi
    have h2 := getD_lt hy (show i < ys.length by omega)
    have h3 := fdotL_lt hn hx hy hl i (by omega)
    have h4 := (mul_facts n hn _ h1 _ h2).2.1
    simp only [↓kPre, kPost, nI_eq, lawF_0, lawF_1, ha.ix hi, hb.ix (show i < ys.length by omega), ix_tab h1, ix_row h2, ix_tab h3, ix_row h4]
    have e : fdotL n xs ys (i + 1) = fadd n (fdotL n xs ys i) (fmul n (xs.getD i 0) (ys.getD i 0)) := by
      unfold fdotL
      rw [List.range_succ, List.foldl_append]
      rfl
    rw [e]
    exact ⟨some _, .inl rfl⟩
  · simp only [↓kPre, kPost, fdotL_eq]
end FW

/-! Lin: plain linear algebra over any field: spans, plain rows. No program in sight. -/
namespace LA
section
variable {F : Type} [Lean.Grind.Field F] [DecidableEq F]
def ent (r : List F) (k : Nat) : F := r.getD k 0
def comb : List (List F) → List F → Nat → F
  | r :: rs, m :: ms, k => m * ent r k + comb rs ms k
  | _, _, _ => 0
def Spn (R : List (List F)) (v : Nat → F) : Prop := ∃ m : List F, m.length = R.length ∧ ∀ k, v k = comb R m k
theorem ent_ge {r : List F} {k : Nat} (h : r.length ≤ k) : ent r k = 0 := by
  unfold ent
  rw [List.getD_eq_getElem?_getD, List.getElem?_eq_none h]
  rfl
theorem ent_lt {r : List F} {k : Nat} (h : k < r.length) : ent r k = r[k] := by
  unfold ent
  rw [List.getD_eq_getElem?_getD, List.getElem?_eq_getElem h]
  rfl
theorem ent_ext {r s : List F} (hl : r.length = s.length) (h : ∀ k < r.length, ent r k = ent s k) : r = s := by
  apply List.ext_getElem hl
  intro i h1 h2
  have := h i h1
  rwa [ent_lt h1, ent_lt h2] at this
theorem ent_map {r : List F} {f : F → F} (h0 : f 0 = 0) (k : Nat) : ent (r.map f) k = f (ent r k) := by
  unfold ent
  rw [List.getD_eq_getElem?_getD, List.getD_eq_getElem?_getD, List.getElem?_map]
  cases r[k]? with
  | none => exact h0.symm
  | some x => rfl
theorem ent_range {w : Nat} {f : Nat → F} {k : Nat} (h : k < w) : ent ((List.range w).map f) k = f k := by
  rw [ent_lt (by simpa using h)]
  simp
theorem comb_zeros : ∀ (R : List (List F)) (n k : Nat), comb R (List.replicate n 0) k = 0
  | [], _, _ => by simp [comb]
  | r :: R, 0, k => by simp [comb]
  | r :: R, n + 1, k => by
    rw [List.replicate_succ, comb, comb_zeros R n k]
    grind
theorem comb_add : ∀ (R : List (List F)) (m l : List F) (k : Nat), m.length = R.length → l.length = R.length → comb R (List.zipWith (· + ·) m l) k = comb R m k + comb R l k
  | [], m, l, k, _, _ => by simp [comb]; grind
  | r :: R, m :: ms, l :: ls, k, h1, h2 => by
    rw [List.zipWith_cons_cons, comb, comb, comb, comb_add R ms ls k (by simpa using h1) (by simpa using h2)]
    grind
  | r :: R, [], _, k, h1, _ => by simp at h1
  | r :: R, _ :: _, [], k, _, h2 => by simp at h2
theorem comb_smul (c : F) : ∀ (R : List (List F)) (m : List F) (k : Nat), comb R (m.map (c * ·)) k = c * comb R m k
  | [], m, k => by simp [comb]; grind
  | r :: R, [], k => by simp [comb]; grind
  | r :: R, m :: ms, k => by
    rw [List.map_cons, comb, comb, comb_smul c R ms k]
    grind
theorem comb_append : ∀ (R S : List (List F)) (m l : List F) (k : Nat), m.length = R.length → comb (R ++ S) (m ++ l) k = comb R m k + comb S l k
  | [], S, [], l, k, _ => by simp [comb]; grind
  | [], S, _ :: _, l, k, h => by simp at h
  | r :: R, S, [], l, k, h => by simp at h
  | r :: R, S, m :: ms, l, k, h => by
    rw [List.cons_append, List.cons_append, comb, comb, comb_append R S ms l k (by simpa using h)]
    grind
theorem Spn.congr {R : List (List F)} {v u : Nat → F} (h : Spn R v) (e : ∀ k, u k = v k) : Spn R u := by
  obtain ⟨m, h1, h2⟩ := h
  exact ⟨m, h1, fun k => (e k).trans (h2 k)⟩
theorem Spn.zero (R : List (List F)) : Spn R fun _ => 0 := ⟨List.replicate R.length 0, by simp, fun k => (comb_zeros R _ k).symm⟩
theorem Spn.add {R : List (List F)} {v u : Nat → F} (h : Spn R v) (h' : Spn R u) : Spn R fun k => v k + u k := by
  obtain ⟨m, h1, h2⟩ := h
  obtain ⟨l, h3, h4⟩ := h'
  exact ⟨List.zipWith (· + ·) m l, by simp [h1, h3], fun k => by show v k + u k = _; rw [comb_add R m l k h1 h3, h2, h4]⟩
theorem Spn.smul {R : List (List F)} {v : Nat → F} (c : F) (h : Spn R v) : Spn R fun k => c * v k := by
  obtain ⟨m, h1, h2⟩ := h
  exact ⟨m.map (c * ·), by simp [h1], fun k => by show c * v k = _; rw [comb_smul, h2]⟩
theorem Spn.cons {R : List (List F)} {v : Nat → F} (r : List F) (h : Spn R v) : Spn (r :: R) v := by
  obtain ⟨m, h1, h2⟩ := h
  exact ⟨0 :: m, by simp [h1], fun k => by rw [comb, h2]; grind⟩
theorem Spn.mem : ∀ {R : List (List F)} {r : List F}, r ∈ R → Spn R (ent r)
  | r :: R, s, h => by
    rcases List.mem_cons.mp h with rfl | h
    · refine ⟨1 :: List.replicate R.length 0, by simp, fun k => ?_⟩
      rw [comb, comb_zeros]
      grind
    · exact (Spn.mem h).cons r
theorem comb_in {R : List (List F)} : ∀ (S : List (List F)) (m : List F), (∀ s ∈ S, Spn R (ent s)) → Spn R (comb S m)
  | [], m, _ => (Spn.zero R).congr fun k => by simp [comb]
  | s :: S, [], _ => (Spn.zero R).congr fun k => by simp [comb]
  | s :: S, m :: ms, h => (((h s List.mem_cons_self).smul m).add (comb_in S ms fun t ht => h t (List.mem_cons_of_mem _ ht))).congr fun k => by rw [comb]
theorem Spn.le {R S : List (List F)} (h : ∀ s ∈ S, Spn R (ent s)) {v : Nat → F} (hv : Spn S v) : Spn R v := by
  obtain ⟨m, _, h2⟩ := hv
  exact (comb_in S m h).congr h2
/-! ### plain rows -/
structure Pln (w : Nat) (R : List (List F)) (P : List Nat) : Prop where
  len : P.length = R.length
  wid : ∀ r ∈ R, r.length = w
  asc : P.Pairwise (· < ·)
  lt : ∀ p ∈ P, p < w
  dia : ∀ (i j : Nat) (r : List F) (p : Nat), R[i]? = some r → P[j]? = some p → ent r p = if i = j then 1 else 0
  pre : ∀ (i : Nat) (r : List F) (p : Nat), R[i]? = some r → P[i]? = some p → ∀ k < p, ent r k = 0
theorem comb_dia : ∀ (R : List (List F)) (m : List F) (i p : Nat), m.length = R.length → (∀ j r, R[j]? = some r → ent r p = if j = i then 1 else 0) → comb R m p = m.getD i 0
  | [], [], i, p, _, _ => by simp [comb]
  | [], _ :: _, _, _, h, _ => by simp at h
  | _ :: _, [], _, _, h, _ => by simp at h
  | r :: R, m :: ms, i, p, h, hd => by
    have e0 := hd 0 r rfl
    rw [comb, e0]
    cases i with
    | zero =>
      have ih := comb_dia R ms R.length p (by simpa using h) fun j s hs => by
        have hj := (List.getElem?_eq_some_iff.mp hs).1
        rw [hd (j + 1) s (by simpa using hs), if_neg (by omega), if_neg (by omega)]
      have z : ms.getD R.length 0 = 0 := by
        rw [List.getD_eq_getElem?_getD, List.getElem?_eq_none (by simp at h; omega)]
        rfl
      rw [ih, z, if_pos rfl]
      simp
      grind
    | succ i =>
      have ih := comb_dia R ms i p (by simpa using h) fun j s hs => by
        rw [hd (j + 1) s (by simpa using hs)]
        by_cases e : j = i
        · rw [if_pos (by omega), if_pos e]
        · rw [if_neg (by omega), if_neg e]
      rw [ih, if_neg (by omega)]
      simp
      grind
theorem Pln.coord {w : Nat} {R : List (List F)} {P : List Nat} (h : Pln w R P) {m : List F} (hm : m.length = R.length) {i p : Nat} (hp : P[i]? = some p) : comb R m p = m.getD i 0 :=
  comb_dia R m i p hm fun j r hr => h.dia j i r p hr hp
/-! the way to plain rows -/
def addR (r s : List F) (c : F) : List F := (List.range r.length).map fun k => ent r k + c * ent s k
def sclR (c : F) (r : List F) : List F := r.map (c * ·)
theorem ent_add {r s : List F} {c : F} (hl : s.length = r.length) (k : Nat) : ent (addR r s c) k = ent r k + c * ent s k := by
  by_cases h : k < r.length
  · exact ent_range h
  · rw [ent_ge (by simp [addR]; omega), ent_ge (by omega), ent_ge (by omega)]
    grind
theorem ent_scl {r : List F} {c : F} (k : Nat) : ent (sclR c r) k = c * ent r k := ent_map (by grind) k
theorem len_add {r s : List F} {c : F} : (addR r s c).length = r.length := by simp [addR]
theorem len_scl {r : List F} {c : F} : (sclR c r).length = r.length := by simp [sclR]
def stepC (c : Nat) (st : List (List F) × List (List F)) : List (List F) × List (List F) :=
  match (List.range st.1.length).filter fun k => ent (st.1.getD k []) c != 0 with
  | [] => st
  | i :: _ => ((st.1.eraseIdx i).map fun r => addR r (sclR (ent (st.1.getD i []) c)⁻¹ (st.1.getD i [])) (-(ent r c)), (st.2.map fun r => addR r (sclR (ent (st.1.getD i []) c)⁻¹ (st.1.getD i [])) (-(ent r c))) ++ [sclR (ent (st.1.getD i []) c)⁻¹ (st.1.getD i [])])
def plainW (w : Nat) (rows : List (List F)) : List (List F) × List (List F) := (List.range w).foldl (fun st c => stepC c st) (rows, [])
structure PInv (w : Nat) (rows : List (List F)) (c : Nat) (st : List (List F) × List (List F)) : Prop where
  wid : ∀ r ∈ st.1, r.length = w
  span : ∀ v, Spn (st.1 ++ st.2) v ↔ Spn rows v
  pl : ∃ P, Pln w st.2 P ∧ ∀ p ∈ P, p < c
  zero : ∀ r ∈ st.1, ∀ k < c, ent r k = 0
  cnt : st.1.length + st.2.length = rows.length
theorem mem_erase {α : Type} : ∀ {l : List α} {i : Nat} {x : α}, x ∈ l → l[i]? = some x ∨ x ∈ l.eraseIdx i
  | a :: l, 0, x, h => by
    rcases List.mem_cons.mp h with rfl | h
    · exact .inl rfl
    · exact .inr h
  | a :: l, i + 1, x, h => by
    rcases List.mem_cons.mp h with rfl | h
    · exact .inr (by simp)
    · rcases mem_erase (i := i) h with e | e
      · exact .inl (by simpa using e)
      · exact .inr (by simp [e])
theorem stepC_ok {w : Nat} {rows : List (List F)} {c : Nat} {st : List (List F) × List (List F)} (hc : c < w) (I : PInv w rows c st) : PInv w rows (c + 1) (stepC c st) := by
  unfold stepC
  obtain ⟨P, hP, hPc⟩ := I.pl
  split
  · rename_i e
    refine ⟨I.wid, I.span, ⟨P, hP, fun p hp => Nat.lt_succ_of_lt (hPc p hp)⟩, fun r hr k hk => ?_, I.cnt⟩
    rcases Nat.lt_or_ge k c with h | h
    · exact I.zero r hr k h
    · have : k = c := by omega
      subst this
      obtain ⟨i, hi, rfl⟩ := List.getElem_of_mem hr
      have hn := List.filter_eq_nil_iff.mp e i (List.mem_range.mpr hi)
      rw [List.getD_eq_getElem?_getD, List.getElem?_eq_getElem hi] at hn
      simpa using hn
  · rename_i i is e
    have him : i ∈ (List.range st.1.length).filter fun k => ent (st.1.getD k []) c != 0 := by rw [e]; exact List.mem_cons_self
    obtain ⟨hi, hne⟩ := List.mem_filter.mp him
    have hi := List.mem_range.mp hi
    have hg : st.1.getD i [] = st.1[i] := by rw [List.getD_eq_getElem?_getD, List.getElem?_eq_getElem hi]; rfl
    rw [hg] at hne ⊢
    have hlm : st.1[i] ∈ st.1 := List.getElem_mem hi
    generalize hl : st.1[i] = l at hne hlm ⊢
    have hne : ent l c ≠ 0 := by simpa using hne
    have hlw := I.wid l hlm
    have hl0 : ∀ k < c, ent l k = 0 := I.zero l hlm
    have lc : ent (sclR (ent l c)⁻¹ l) c = 1 := by rw [ent_scl]; grind
    have lk : ∀ k < c, ent (sclR (ent l c)⁻¹ l) k = 0 := fun k hk => by rw [ent_scl, hl0 k hk]; grind
    have lw : (sclR (ent l c)⁻¹ l).length = w := by rw [len_scl, hlw]
    have ls : ∀ k, ent l k = ent l c * ent (sclR (ent l c)⁻¹ l) k := fun k => by rw [ent_scl]; grind
    have ls' : ∀ k, ent (sclR (ent l c)⁻¹ l) k = (ent l c)⁻¹ * ent l k := fun k => ent_scl k
    generalize sclR (ent l c)⁻¹ l = l' at lc lk lw ls ls' ⊢
    have hle : ∀ r ∈ st.1.eraseIdx i, r ∈ st.1 := fun r hr => List.mem_of_mem_eraseIdx hr
    have eL : ∀ r ∈ st.1 ++ st.2, ∀ k, ent (addR r l' (-(ent r c))) k = ent r k + -(ent r c) * ent l' k := fun r hr k => by
      refine ent_add ?_ k
      rcases List.mem_append.mp hr with hr | hr
      · rw [lw, I.wid r hr]
      · rw [lw, hP.wid r hr]
    have sl : Spn (st.1 ++ st.2) (ent l') := ((Spn.mem (List.mem_append_left st.2 hlm)).smul (ent l c)⁻¹).congr ls'
    refine ⟨fun r hr => ?_, fun v => ?_, ⟨P ++ [c], ⟨?_, fun r hr => ?_, ?_, fun p hp => ?_, ?_, ?_⟩, fun p hp => ?_⟩, fun r hr k hk => ?_, ?_⟩
    · obtain ⟨s, hs, rfl⟩ := List.mem_map.mp hr
      rw [len_add, I.wid s (hle s hs)]
    · rw [← I.span v]
      have hmem : ∀ r ∈ st.1.eraseIdx i ++ st.2, r ∈ st.1 ++ st.2 := fun r hr => by
        rcases List.mem_append.mp hr with hr | hr
        · exact List.mem_append_left _ (hle r hr)
        · exact List.mem_append_right _ hr
      constructor
      · refine fun h => Spn.le (fun s hs => ?_) h
        have hs' : s ∈ (st.1.eraseIdx i ++ st.2).map (fun r => addR r l' (-(ent r c))) ∨ s = l' := by
          simp only [List.mem_append, List.mem_map, List.mem_singleton] at hs ⊢
          rcases hs with ⟨r, h1, h2⟩ | ⟨r, h1, h2⟩ | hs
          · exact .inl ⟨r, .inl h1, h2⟩
          · exact .inl ⟨r, .inr h1, h2⟩
          · exact .inr hs
        rcases hs' with hs | rfl
        · obtain ⟨r, hr, rfl⟩ := List.mem_map.mp hs
          exact ((Spn.mem (hmem r hr)).add (sl.smul (-(ent r c)))).congr fun k => eL r (hmem r hr) k
        · exact sl
      · refine fun h => Spn.le (fun s hs => ?_) h
        have nl : Spn ((st.1.eraseIdx i).map (fun r => addR r l' (-(ent r c))) ++ (st.2.map (fun r => addR r l' (-(ent r c))) ++ [l'])) (ent l') := Spn.mem (by simp)
        have old : ∀ r ∈ st.1.eraseIdx i ++ st.2, Spn ((st.1.eraseIdx i).map (fun r => addR r l' (-(ent r c))) ++ (st.2.map (fun r => addR r l' (-(ent r c))) ++ [l'])) (ent r) := fun r hr => by
          have hm : addR r l' (-(ent r c)) ∈ (st.1.eraseIdx i).map (fun r => addR r l' (-(ent r c))) ++ (st.2.map (fun r => addR r l' (-(ent r c))) ++ [l']) := by
            rcases List.mem_append.mp hr with hr | hr
            · exact List.mem_append_left _ (List.mem_map.mpr ⟨r, hr, rfl⟩)
            · exact List.mem_append_right _ (List.mem_append_left _ (List.mem_map.mpr ⟨r, hr, rfl⟩))
          refine ((Spn.mem hm).add (nl.smul (ent r c))).congr fun k => ?_
          rw [eL r (hmem r hr) k]
          grind
        rcases List.mem_append.mp hs with hs | hs
        · rcases mem_erase (i := i) hs with e1 | e1
          · rw [List.getElem?_eq_getElem hi, hl] at e1
            cases e1
            exact (nl.smul (ent l c)).congr ls
          · exact old s (List.mem_append_left _ e1)
        · exact old s (List.mem_append_right _ hs)
    · simp [hP.len]
    · rcases List.mem_append.mp hr with hr | hr
      · obtain ⟨s, hs, rfl⟩ := List.mem_map.mp hr
        rw [len_add, hP.wid s hs]
      · rw [List.mem_singleton.mp hr, lw]
    · rw [List.pairwise_append]
      exact ⟨hP.asc, by simp, fun p hp q hq => by rw [List.mem_singleton.mp hq]; exact hPc p hp⟩
    · rcases List.mem_append.mp hp with hp | hp
      · exact hP.lt p hp
      · rw [List.mem_singleton.mp hp]
        exact hc
    · intro a b r p hr hp
      have hb : p = c ∧ b = P.length ∨ P[b]? = some p ∧ p < c := by
        rcases Nat.lt_or_ge b P.length with h | h
        · rw [List.getElem?_append_left h] at hp
          exact .inr ⟨hp, hPc p (List.mem_of_getElem? hp)⟩
        · rw [List.getElem?_append_right h] at hp
          have h2 : b - P.length = 0 := by
            have := (List.getElem?_eq_some_iff.mp hp).1
            simp at this
            omega
          rw [h2] at hp
          simp at hp
          exact .inl ⟨hp.symm, by omega⟩
      rcases Nat.lt_or_ge a st.2.length with h | h
      · rw [List.getElem?_append_left (by simpa using h), List.getElem?_map] at hr
        obtain ⟨s, hs, rfl⟩ := Option.map_eq_some_iff.mp hr
        have hsm : s ∈ st.1 ++ st.2 := List.mem_append_right _ (List.mem_of_getElem? hs)
        rw [eL s hsm]
        rcases hb with ⟨rfl, hb⟩ | ⟨hb, hpc⟩
        · have hl := hP.len
          rw [lc, if_neg (by omega)]
          grind
        · rw [lk p hpc, hP.dia a b s p hs hb]
          grind
      · rw [List.getElem?_append_right (by simpa using h)] at hr
        have h2 : a = st.2.length := by
          have := (List.getElem?_eq_some_iff.mp hr).1
          simp at this
          omega
        rw [h2] at hr
        simp at hr
        subst hr
        have hl := hP.len
        rcases hb with ⟨rfl, hb⟩ | ⟨hb, hpc⟩
        · rw [lc, if_pos (by omega)]
        · have := (List.getElem?_eq_some_iff.mp hb).1
          rw [lk p hpc, if_neg (by omega)]
    · intro a r p hr hp k hk
      rcases Nat.lt_or_ge a st.2.length with h | h
      · rw [List.getElem?_append_left (by simpa using h), List.getElem?_map] at hr
        obtain ⟨s, hs, rfl⟩ := Option.map_eq_some_iff.mp hr
        have hl := hP.len
        rw [List.getElem?_append_left (by omega)] at hp
        have hsm : s ∈ st.1 ++ st.2 := List.mem_append_right _ (List.mem_of_getElem? hs)
        have hpc := hPc p (List.mem_of_getElem? hp)
        rw [eL s hsm, lk k (by omega), hP.pre a s p hs hp k hk]
        grind
      · rw [List.getElem?_append_right (by simpa using h)] at hr
        have h2 : a = st.2.length := by
          have := (List.getElem?_eq_some_iff.mp hr).1
          simp at this
          omega
        rw [h2] at hr hp
        simp at hr
        subst hr
        have hl := hP.len
        rw [List.getElem?_append_right (by omega), show st.2.length - P.length = 0 by omega] at hp
        simp at hp
        subst hp
        exact lk k hk
    · rcases List.mem_append.mp hp with hp | hp
      · exact Nat.lt_succ_of_lt (hPc p hp)
      · rw [List.mem_singleton.mp hp]
        exact Nat.lt_succ_self c
    · obtain ⟨s, hs, rfl⟩ := List.mem_map.mp hr
      rw [eL s (List.mem_append_left _ (hle s hs))]
      rcases Nat.lt_or_ge k c with h | h
      · rw [lk k h, I.zero s (hle s hs) k h]
        grind
      · have : k = c := by omega
        subst this
        rw [lc]
        grind
    · have := I.cnt
      simp [List.length_eraseIdx, hi]
      omega
theorem plainW_inv {w : Nat} {rows : List (List F)} (hw : ∀ r ∈ rows, r.length = w) : ∀ c ≤ w, PInv w rows c ((List.range c).foldl (fun st c => stepC c st) (rows, []))
  | 0, _ => ⟨hw, fun v => by simp, ⟨[], ⟨rfl, fun r hr => by simp at hr, .nil, fun p hp => by simp at hp, fun i j r p h => by simp at h, fun i r p h => by simp at h⟩, fun p hp => by simp at hp⟩, fun r _ k hk => by omega, by simp⟩
  | c + 1, h => by
    rw [List.range_succ, List.foldl_append]
    exact stepC_ok (by omega) (plainW_inv hw c (by omega))
def plainF (w : Nat) (rows : List (List F)) : List (List F) := (plainW w rows).2
theorem plainF_ok {w : Nat} {rows : List (List F)} (hw : ∀ r ∈ rows, r.length = w) : (∃ P, Pln w (plainF w rows) P) ∧ (∀ v, Spn (plainF w rows) v ↔ Spn rows v) ∧ (plainF w rows).length ≤ rows.length := by
  have I := plainW_inv hw w (Nat.le_refl _)
  obtain ⟨P, hP, _⟩ := I.pl
  refine ⟨⟨P, hP⟩, fun v => ?_, ?_⟩
  · rw [← I.span v]
    constructor
    · exact fun h => Spn.le (fun s hs => Spn.mem (List.mem_append_right _ hs)) h
    · refine fun h => Spn.le (fun s hs => ?_) h
      rcases List.mem_append.mp hs with hs | hs
      · refine (Spn.zero _).congr fun k => ?_
        rcases Nat.lt_or_ge k w with z | z
        · exact I.zero s hs k z
        · exact ent_ge (by rw [I.wid s hs]; exact z)
      · exact Spn.mem hs
  · have := I.cnt
    show (plainW w rows).2.length ≤ _
    have e : plainW w rows = (List.range w).foldl (fun st c => stepC c st) (rows, []) := rfl
    rw [e]
    omega
end
end LA

/-! Lin2: plain rows are one; words counted; duals. -/
namespace LA
theorem asc_ext : ∀ {P Q : List Nat}, P.Pairwise (· < ·) → Q.Pairwise (· < ·) → (∀ p, p ∈ P ↔ p ∈ Q) → P = Q
  | [], [], _, _, _ => rfl
  | [], q :: Q, _, _, h => by have := (h q).mpr List.mem_cons_self; simp at this
  | p :: P, [], _, _, h => by have := (h p).mp List.mem_cons_self; simp at this
  | p :: P, q :: Q, h1, h2, h => by
    obtain ⟨a1, a2⟩ := List.pairwise_cons.mp h1
    obtain ⟨b1, b2⟩ := List.pairwise_cons.mp h2
    have e : p = q := by
      rcases List.mem_cons.mp ((h p).mp List.mem_cons_self) with e | e
      · exact e
      · rcases List.mem_cons.mp ((h q).mpr List.mem_cons_self) with e' | e'
        · exact e'.symm
        · have := a1 q e'
          have := b1 p e
          omega
    subst e
    rw [asc_ext a2 b2 fun x => ?_]
    constructor
    · intro hx
      rcases List.mem_cons.mp ((h x).mp (List.mem_cons_of_mem _ hx)) with e | e
      · have := a1 x hx
        omega
      · exact e
    · intro hx
      rcases List.mem_cons.mp ((h x).mpr (List.mem_cons_of_mem _ hx)) with e | e
      · have := b1 x hx
        omega
      · exact e
section
variable {F : Type} [Lean.Grind.Field F] [DecidableEq F]
/-- rows that are independent, by places -/
def Ind (R : List (List F)) (Q : List Nat) : Prop := Q.length = R.length ∧ ∀ (i j : Nat) (r : List F) (p : Nat), R[i]? = some r → Q[j]? = some p → ent r p = if i = j then 1 else 0
theorem Pln.ind {w : Nat} {R : List (List F)} {P : List Nat} (h : Pln w R P) : Ind R P := ⟨h.len, h.dia⟩
theorem Ind.coord {R : List (List F)} {Q : List Nat} (h : Ind R Q) {m : List F} (hm : m.length = R.length) {i p : Nat} (hp : Q[i]? = some p) : comb R m p = m.getD i 0 :=
  comb_dia R m i p hm fun j r hr => h.2 j i r p hr hp
theorem Ind.msg {R : List (List F)} {Q : List Nat} (h : Ind R Q) {m : List F} (hm : m.length = R.length) : Q.map (comb R m) = m := by
  have hl := h.1
  apply List.ext_getElem (by simp; omega)
  intro i h1 h2
  rw [List.getElem_map, h.coord hm (List.getElem?_eq_getElem (by simpa using h1)), List.getD_eq_getElem?_getD, List.getElem?_eq_getElem h2]
  rfl
theorem Ind.spn {R : List (List F)} {Q : List Nat} (h : Ind R Q) {v : Nat → F} (hv : Spn R v) (k : Nat) : v k = comb R (Q.map v) k := by
  obtain ⟨m, h1, h2⟩ := hv
  have e : Q.map v = m := by
    rw [← h.msg h1]
    exact List.map_congr_left fun q _ => h2 q
  rw [e]
  exact h2 k
theorem Ind.ext {R : List (List F)} {Q : List Nat} (h : Ind R Q) {v u : Nat → F} (hv : Spn R v) (hu : Spn R u) (e : ∀ p ∈ Q, v p = u p) (k : Nat) : v k = u k := by
  rw [h.spn hv, h.spn hu, List.map_congr_left e]
theorem comb_none : ∀ (R : List (List F)) (m : List F) (p : Nat), (∀ j r, R[j]? = some r → m.getD j 0 = 0 ∨ ent r p = 0) → comb R m p = 0
  | [], _, _, _ => by simp [comb]
  | _ :: _, [], _, _ => by simp [comb]
  | r :: R, m :: ms, p, h => by
    rw [comb, comb_none R ms p fun j s hs => by simpa using h (j + 1) s (by simpa using hs)]
    rcases h 0 r rfl with e | e
    · have e' : m = 0 := by simpa using e
      rw [e']
      grind
    · rw [e]
      grind
theorem Pln.lead {w : Nat} {R : List (List F)} {P : List Nat} (h : Pln w R P) (p : Nat) : p ∈ P ↔ ∃ v, Spn R v ∧ v p ≠ 0 ∧ ∀ k < p, v k = 0 := by
  constructor
  · intro hp
    obtain ⟨i, hi, e⟩ := List.mem_iff_getElem.mp hp
    have hl := h.len
    have hr : R[i]? = some (R[i]'(by omega)) := List.getElem?_eq_getElem _
    have hq : P[i]? = some p := by rw [List.getElem?_eq_getElem hi, e]
    refine ⟨ent (R[i]'(by omega)), Spn.mem (List.getElem_mem _), ?_, h.pre i _ p hr hq⟩
    rw [h.dia i i _ p hr hq, if_pos rfl]
    exact fun z => Lean.Grind.Field.zero_ne_one z.symm
  · rintro ⟨v, hv, h0, hk⟩
    apply Classical.byContradiction
    intro hn
    apply h0
    rw [h.ind.spn hv]
    apply comb_none
    intro j r hr
    have hl := h.len
    have hj := (List.getElem?_eq_some_iff.mp hr).1
    have hp : P[j]? = some (P[j]'(by omega)) := List.getElem?_eq_getElem _
    rcases Nat.lt_trichotomy (P[j]'(by omega)) p with z | z | z
    · left
      rw [List.getD_eq_getElem?_getD, List.getElem?_map, hp]
      exact hk _ z
    · exact absurd (z ▸ List.getElem_mem _) hn
    · exact .inr (h.pre j r _ hr hp p z)
/-- plain rows with the same sums are the same -/
theorem Pln.uniq {w : Nat} {R S : List (List F)} {P Q : List Nat} (h : Pln w R P) (h' : Pln w S Q) (e : ∀ v, Spn R v ↔ Spn S v) : R = S ∧ P = Q := by
  have eP : P = Q := asc_ext h.asc h'.asc fun p => by
    rw [h.lead, h'.lead]
    exact ⟨fun ⟨v, a, b⟩ => ⟨v, (e v).mp a, b⟩, fun ⟨v, a, b⟩ => ⟨v, (e v).mpr a, b⟩⟩
  subst eP
  refine ⟨?_, rfl⟩
  have l1 := h.len
  have l2 := h'.len
  apply List.ext_getElem (by omega)
  intro i h1 h2
  refine ent_ext ?_ fun k _ => h'.ind.ext ((e _).mp (Spn.mem (List.getElem_mem h1))) (Spn.mem (List.getElem_mem h2)) (fun p hp => ?_) k
  · rw [h.wid _ (List.getElem_mem h1), h'.wid _ (List.getElem_mem h2)]
  · obtain ⟨j, hj, ej⟩ := List.mem_iff_getElem.mp hp
    have hq : P[j]? = some p := by rw [List.getElem?_eq_getElem hj, ej]
    rw [h.dia i j _ p (List.getElem?_eq_getElem h1) hq, h'.dia i j _ p (List.getElem?_eq_getElem h2) hq]
theorem plainF_id {w : Nat} {R : List (List F)} {P : List Nat} (h : Pln w R P) : plainF w R = R := by
  obtain ⟨⟨Q, hQ⟩, hs, _⟩ := plainF_ok h.wid
  exact (hQ.uniq h hs).1
theorem plainF_of {w : Nat} {R S : List (List F)} (hR : ∀ r ∈ R, r.length = w) (hS : ∀ r ∈ S, r.length = w) (e : ∀ v, Spn R v ↔ Spn S v) : plainF w R = plainF w S := by
  obtain ⟨⟨P, hP⟩, h1, _⟩ := plainF_ok hR
  obtain ⟨⟨Q, hQ⟩, h2, _⟩ := plainF_ok hS
  exact (hP.uniq hQ fun v => (h1 v).trans ((e v).trans (h2 v).symm)).1
/-! words -/
def mixW (w : Nat) (R : List (List F)) (m : List F) : List F := (List.range w).map (comb R m)
theorem mixW_len {w : Nat} {R : List (List F)} {m : List F} : (mixW w R m).length = w := by simp [mixW]
theorem comb_ge {w : Nat} : ∀ {R : List (List F)} {m : List F} {k : Nat}, (∀ r ∈ R, r.length = w) → w ≤ k → comb R m k = 0
  | [], _, _, _, _ => by simp [comb]
  | _ :: _, [], _, _, _ => by simp [comb]
  | r :: R, m :: ms, k, h, hk => by
    rw [comb, comb_ge (fun s hs => h s (List.mem_cons_of_mem _ hs)) hk, ent_ge (by rw [h r List.mem_cons_self]; exact hk)]
    grind
theorem ent_mix {w : Nat} {R : List (List F)} {m : List F} (hR : ∀ r ∈ R, r.length = w) (k : Nat) : ent (mixW w R m) k = comb R m k := by
  rcases Nat.lt_or_ge k w with h | h
  · exact ent_range h
  · rw [ent_ge (by rw [mixW_len]; exact h), comb_ge hR h]
theorem spn_mix {w : Nat} {R : List (List F)} {m : List F} (hR : ∀ r ∈ R, r.length = w) (hm : m.length = R.length) : Spn R (ent (mixW w R m)) := ⟨m, hm, fun k => ent_mix hR k⟩
def allW (E : List F) : Nat → List (List F)
  | 0 => [[]]
  | m + 1 => (allW E m).flatMap fun w => E.map fun x => w ++ [x]
theorem allW_mem {E : List F} (hE : ∀ x : F, x ∈ E) : ∀ {m : Nat} {l : List F}, l ∈ allW E m ↔ l.length = m
  | 0, l => by simp [allW]
  | m + 1, l => by
    rw [allW, List.mem_flatMap]
    constructor
    · rintro ⟨w, hw, hl⟩
      obtain ⟨x, _, rfl⟩ := List.mem_map.mp hl
      rw [List.length_append, (allW_mem hE).mp hw]
      rfl
    · intro hl
      have hne : l ≠ [] := fun e => by rw [e] at hl; simp at hl
      refine ⟨l.dropLast, (allW_mem hE).mpr (by rw [List.length_dropLast, hl]; rfl), List.mem_map.mpr ⟨l.getLast hne, hE _, List.dropLast_concat_getLast hne⟩⟩
theorem allW_nodup {E : List F} (hE : E.Nodup) : ∀ m : Nat, (allW E m).Nodup
  | 0 => by simp [allW]
  | m + 1 => by
    rw [allW, List.Nodup, List.pairwise_flatMap]
    refine ⟨fun w _ => ?_, ?_⟩
    · rw [List.pairwise_map]
      exact hE.imp fun h e => h (by simpa using e)
    · refine (allW_nodup hE m).imp fun {a b} h => ?_
      intro x hx y hy e
      obtain ⟨u, _, rfl⟩ := List.mem_map.mp hx
      obtain ⟨v, _, rfl⟩ := List.mem_map.mp hy
      exact h (List.append_inj' e rfl).1
theorem allW_len {E : List F} : ∀ m : Nat, (allW E m).length = E.length ^ m
  | 0 => rfl
  | m + 1 => by
    rw [allW, List.length_flatMap]
    simp only [List.length_map]
    rw [List.map_const', List.sum_replicate_nat, allW_len m, Nat.pow_succ]
theorem nodup_le {α : Type} [DecidableEq α] : ∀ {l k : List α}, l.Nodup → (∀ x ∈ l, x ∈ k) → l.length ≤ k.length
  | [], _, _, _ => Nat.zero_le _
  | x :: l, k, hn, h => by
    obtain ⟨h1, h2⟩ := List.nodup_cons.mp hn
    have ih := nodup_le (k := k.erase x) h2 fun y hy => (List.mem_erase_of_ne (fun e => h1 (by rw [← e]; exact hy))).mpr (h y (List.mem_cons_of_mem _ hy))
    have hx := h x List.mem_cons_self
    have hl := List.length_erase_of_mem hx
    have hp : 0 < k.length := List.length_pos_of_mem hx
    simp
    omega
theorem nodup_back {α : Type} [DecidableEq α] {l k : List α} (hl : l.Nodup) (h : ∀ x ∈ l, x ∈ k) (hk : k.length ≤ l.length) {x : α} (hx : x ∈ k) : x ∈ l := by
  apply Classical.byContradiction
  intro hn
  have h1 := nodup_le (l := l) (k := k.erase x) hl fun y hy => (List.mem_erase_of_ne (fun e => hn (by rw [← e]; exact hy))).mpr (h y hy)
  have h2 := List.length_erase_of_mem hx
  have hp : 0 < k.length := List.length_pos_of_mem hx
  omega
/-- all words of rows -/
def wordsW (E : List F) (w : Nat) (R : List (List F)) : List (List F) := (allW E R.length).map (mixW w R)
theorem words_mem {E : List F} (hE : ∀ x : F, x ∈ E) {w : Nat} {R : List (List F)} (hR : ∀ r ∈ R, r.length = w) {v : List F} : v ∈ wordsW E w R ↔ v.length = w ∧ Spn R (ent v) := by
  unfold wordsW
  rw [List.mem_map]
  constructor
  · rintro ⟨m, hm, rfl⟩
    exact ⟨mixW_len, spn_mix hR ((allW_mem hE).mp hm)⟩
  · rintro ⟨hl, m, hm, e⟩
    exact ⟨m, (allW_mem hE).mpr hm, ent_ext (by rw [mixW_len, hl]) fun k _ => by rw [ent_mix hR, e]⟩
theorem words_nodup {E : List F} (hE : E.Nodup) (hE2 : ∀ x : F, x ∈ E) {w : Nat} {R : List (List F)} {Q : List Nat} (hR : ∀ r ∈ R, r.length = w) (h : Ind R Q) : (wordsW E w R).Nodup := by
  unfold wordsW
  rw [List.Nodup, List.pairwise_map]
  refine (List.pairwise_iff_forall_sublist.mpr ?_)
  intro a b hs e
  have hn := (allW_nodup hE R.length).sublist hs
  have ha := (allW_mem hE2).mp (hs.subset (show a ∈ [a, b] by simp))
  have hb := (allW_mem hE2).mp (hs.subset (show b ∈ [a, b] by simp))
  have : a = b := by
    rw [← h.msg ha, ← h.msg hb]
    exact List.map_congr_left fun q _ => by rw [← ent_mix hR, ← ent_mix hR, e]
  simp [this] at hn
theorem words_len {E : List F} {w : Nat} {R : List (List F)} : (wordsW E w R).length = E.length ^ R.length := by
  unfold wordsW
  rw [List.length_map, allW_len]
section
variable {E : List F} (hE : E.Nodup) (hE2 : ∀ x : F, x ∈ E) (h2 : 2 ≤ E.length) {w : Nat} {R S : List (List F)} {P Q : List Nat}
include hE hE2 h2
theorem ind_le (hR : ∀ r ∈ R, r.length = w) (hS : ∀ r ∈ S, r.length = w) (h : Ind R P) (h' : Ind S Q) (e : ∀ v, Spn R v → Spn S v) : R.length ≤ S.length := by
  have hl := nodup_le (k := wordsW E w S) (words_nodup hE hE2 hR h) fun v hv => by
    obtain ⟨a, b⟩ := (words_mem hE2 hR).mp hv
    exact (words_mem hE2 hS).mpr ⟨a, e _ b⟩
  rw [words_len, words_len] at hl
  exact (Nat.pow_le_pow_iff_right (by omega)).mp hl
theorem ind_eq (hR : ∀ r ∈ R, r.length = w) (hS : ∀ r ∈ S, r.length = w) (h : Ind R P) (h' : Ind S Q) (e : ∀ v, Spn R v → Spn S v) (hl : S.length ≤ R.length) {v : Nat → F} (hv : Spn S v) : Spn R v := by
  obtain ⟨m, hm, hk⟩ := hv
  have hin : mixW w S m ∈ wordsW E w S := (words_mem hE2 hS).mpr ⟨mixW_len, spn_mix hS hm⟩
  have hb := nodup_back (words_nodup hE hE2 hR h) (fun v hv => by
    obtain ⟨a, b⟩ := (words_mem hE2 hR).mp hv
    exact (words_mem hE2 hS).mpr ⟨a, e _ b⟩) (by rw [words_len, words_len]; exact Nat.pow_le_pow_right (by omega) hl) hin
  exact ((words_mem hE2 hR).mp hb).2.congr fun k => by rw [ent_mix hS]; exact hk k
end
end
end LA

/-! Lin3: leads, checks, duals. -/
namespace LA
theorem nodup_inj {α : Type} {l : List α} (h : l.Nodup) {i j : Nat} (hi : i < l.length) (hj : j < l.length) (e : l[i] = l[j]) : i = j := by
  rcases Nat.lt_trichotomy i j with z | z | z
  · exact absurd e (List.pairwise_iff_getElem.mp h i j hi hj z)
  · exact z
  · exact absurd e.symm (List.pairwise_iff_getElem.mp h j i hj hi z)
section
variable {F : Type} [Lean.Grind.Field F] [DecidableEq F]
def lsum (l : List F) : F := l.foldr (· + ·) 0
theorem lsum_nil : lsum ([] : List F) = 0 := rfl
theorem lsum_cons (x : F) (l : List F) : lsum (x :: l) = x + lsum l := rfl
theorem lsum_append : ∀ l k : List F, lsum (l ++ k) = lsum l + lsum k
  | [], k => by rw [List.nil_append, lsum_nil]; grind
  | x :: l, k => by rw [List.cons_append, lsum_cons, lsum_cons, lsum_append l k]; grind
theorem lsum_perm {l k : List F} (h : l.Perm k) : lsum l = lsum k := by
  induction h with
  | nil => rfl
  | cons x _ ih => rw [lsum_cons, lsum_cons, ih]
  | swap x y l => rw [lsum_cons, lsum_cons, lsum_cons, lsum_cons]; grind
  | trans _ _ h1 h2 => rw [h1, h2]
theorem foldl_lsum : ∀ (l : List F) (a : F), l.foldl (· + ·) a = a + lsum l
  | [], a => by rw [lsum_nil, List.foldl_nil]; grind
  | x :: l, a => by rw [List.foldl_cons, foldl_lsum l, lsum_cons]; grind
theorem lsum_zero {α : Type} {g : α → F} : ∀ {l : List α}, (∀ x ∈ l, g x = 0) → lsum (l.map g) = 0
  | [], _ => rfl
  | x :: l, h => by
    rw [List.map_cons, lsum_cons, h x List.mem_cons_self, lsum_zero fun y hy => h y (List.mem_cons_of_mem _ hy)]
    grind
theorem lsum_single {α : Type} {g : α → F} {p : α} : ∀ {l : List α}, l.Nodup → p ∈ l → (∀ k ∈ l, k ≠ p → g k = 0) → lsum (l.map g) = g p
  | x :: l, hn, hp, h => by
    obtain ⟨h1, h2⟩ := List.nodup_cons.mp hn
    rw [List.map_cons, lsum_cons]
    rcases List.mem_cons.mp hp with rfl | hp
    · rw [lsum_zero fun y hy => h y (List.mem_cons_of_mem _ hy) fun e => h1 (e ▸ hy)]
      grind
    · rw [lsum_single h2 hp fun y hy => h y (List.mem_cons_of_mem _ hy), h x List.mem_cons_self fun e => h1 (e ▸ hp)]
      grind
theorem lsum_neg {α : Type} {g : α → F} : ∀ (l : List α), lsum (l.map fun x => -(g x)) = -(lsum (l.map g))
  | [] => by simp only [List.map_nil, lsum_nil]; grind
  | x :: l => by simp only [List.map_cons, lsum_cons, lsum_neg l]; grind
def dotW (w : Nat) (u v : Nat → F) : F := lsum ((List.range w).map fun k => u k * v k)
theorem dotW_comm (w : Nat) (u v : Nat → F) : dotW w u v = dotW w v u := by
  unfold dotW
  congr 1
  exact List.map_congr_left fun k _ => by grind
theorem dotW_congr {w : Nat} {u v u' v' : Nat → F} (h : ∀ k < w, u k = u' k) (h' : ∀ k < w, v k = v' k) : dotW w u v = dotW w u' v' := by
  unfold dotW
  congr 1
  exact List.map_congr_left fun k hk => by rw [h k (List.mem_range.mp hk), h' k (List.mem_range.mp hk)]
theorem lsum_add {α : Type} {g h : α → F} : ∀ (l : List α), lsum (l.map fun x => g x + h x) = lsum (l.map g) + lsum (l.map h)
  | [] => by simp only [List.map_nil, lsum_nil]; grind
  | x :: l => by simp only [List.map_cons, lsum_cons, lsum_add l]; grind
theorem lsum_smul {α : Type} {g : α → F} (c : F) : ∀ (l : List α), lsum (l.map fun x => c * g x) = c * lsum (l.map g)
  | [] => by simp only [List.map_nil, lsum_nil]; grind
  | x :: l => by simp only [List.map_cons, lsum_cons, lsum_smul c l]; grind
theorem dotW_add (w : Nat) (u v v' : Nat → F) : dotW w u (fun k => v k + v' k) = dotW w u v + dotW w u v' := by
  unfold dotW
  rw [← lsum_add]
  congr 1
  exact List.map_congr_left fun k _ => by grind
theorem dotW_smul (w : Nat) (c : F) (u v : Nat → F) : dotW w u (fun k => c * v k) = c * dotW w u v := by
  unfold dotW
  rw [← lsum_smul]
  congr 1
  exact List.map_congr_left fun k _ => by grind
theorem dotW_zero (w : Nat) (u : Nat → F) : dotW w u (fun _ => 0) = 0 := by
  unfold dotW
  exact lsum_zero fun k _ => by grind
theorem dotW_comb {w : Nat} {u : Nat → F} : ∀ (R : List (List F)) (m : List F), (∀ r ∈ R, dotW w u (ent r) = 0) → dotW w u (comb R m) = 0
  | [], m, _ => by
    refine Eq.trans (dotW_congr (fun _ _ => rfl) (v' := fun _ => 0) fun k _ => by simp [comb]) (dotW_zero w u)
  | _ :: _, [], _ => by
    refine Eq.trans (dotW_congr (fun _ _ => rfl) (v' := fun _ => 0) fun k _ => by simp [comb]) (dotW_zero w u)
  | r :: R, m :: ms, h => by
    refine Eq.trans (dotW_congr (fun _ _ => rfl) (v' := fun k => m * ent r k + comb R ms k) fun k _ => by rw [comb]) ?_
    rw [dotW_add, dotW_smul, h r List.mem_cons_self, dotW_comb R ms fun s hs => h s (List.mem_cons_of_mem _ hs)]
    grind
theorem dotW_spn {w : Nat} {u v : Nat → F} {R : List (List F)} (h : ∀ r ∈ R, dotW w u (ent r) = 0) (hv : Spn R v) : dotW w u v = 0 := by
  obtain ⟨m, _, e⟩ := hv
  exact (dotW_congr (fun _ _ => rfl) fun k _ => e k).trans (dotW_comb R m h)
/-! leads -/
def lead1 (r : List F) : Nat := (((List.range r.length).filter fun k => ent r k != 0)[0]?).getD 0
def leadsF (R : List (List F)) : List Nat := R.map lead1
theorem lead1_eq {r : List F} {p : Nat} (hp : p < r.length) (h0 : ent r p ≠ 0) (h : ∀ k < p, ent r k = 0) : ((List.range r.length).filter fun k => ent r k != 0)[0]? = some p := by
  have e : List.range r.length = List.range p ++ (p :: (List.range (r.length - p - 1)).map fun k => p + 1 + k) := by
    apply List.ext_getElem (by simp; omega)
    intro i h1 h2
    rw [List.getElem_range]
    rcases Nat.lt_trichotomy i p with z | z | z
    · rw [List.getElem_append_left (by simpa using z), List.getElem_range]
    · subst z
      rw [List.getElem_append_right (by simp)]
      simp
    · rw [List.getElem_append_right (by simp; omega)]
      simp only [List.length_range]
      rw [List.getElem_cons]
      rw [dif_neg (by omega)]
      simp
      omega
  rw [e, List.filter_append, List.filter_eq_nil_iff.mpr (fun k hk => by simpa using h k (List.mem_range.mp hk)), List.nil_append, List.filter_cons_of_pos (by simpa using h0)]
  rfl
theorem Pln.leads {w : Nat} {R : List (List F)} {P : List Nat} (h : Pln w R P) : leadsF R = P := by
  have hl := h.len
  unfold leadsF
  apply List.ext_getElem (by simp; omega)
  intro i h1 h2
  rw [List.getElem_map]
  have hr : R[i]? = some (R[i]'(by simpa using h1)) := List.getElem?_eq_getElem _
  have hp : P[i]? = some P[i] := List.getElem?_eq_getElem h2
  unfold lead1
  rw [lead1_eq (p := P[i]) (by rw [h.wid _ (List.getElem_mem _)]; exact h.lt _ (List.getElem_mem h2)) (by rw [h.dia i i _ _ hr hp, if_pos rfl]; exact fun z => Lean.Grind.Field.zero_ne_one z.symm) (h.pre i _ _ hr hp)]
  rfl
/-! checks -/
def frees (w : Nat) (P : List Nat) : List Nat := (List.range w).filter fun k => !P.contains k
def setsF (R : List (List F)) (P : List Nat) (f : Nat) (row : List F) (j : Nat) : List F := (List.range j).foldl (fun row k => row.set (P.getD k 0) (-(ent (R.getD k []) f))) row
def drow (w : Nat) (R : List (List F)) (P : List Nat) (f : Nat) : List F := setsF R P f ((List.replicate w 0).set f 1) R.length
theorem ent_set {l : List F} {p k : Nat} {x : F} : ent (l.set p x) k = if p = k ∧ k < l.length then x else ent l k := by
  unfold ent
  rw [List.getD_eq_getElem?_getD, List.getElem?_set, List.getD_eq_getElem?_getD]
  by_cases h : p = k
  · subst h
    by_cases h2 : p < l.length
    · simp [h2]
    · simp [h2]
  · simp [h]
theorem setsF_len {R : List (List F)} {P : List Nat} {f : Nat} {row : List F} : ∀ j, (setsF R P f row j).length = row.length
  | 0 => rfl
  | j + 1 => by
    have := setsF_len (R := R) (P := P) (f := f) (row := row) j
    unfold setsF at this ⊢
    rw [List.range_succ, List.foldl_append, List.foldl_cons, List.foldl_nil, List.length_set]
    exact this
theorem setsF_ne {R : List (List F)} {P : List Nat} {f : Nat} {row : List F} {k : Nat} : ∀ j, (∀ i < j, P.getD i 0 ≠ k) → ent (setsF R P f row j) k = ent row k
  | 0, _ => rfl
  | j + 1, h => by
    have ih := setsF_ne (R := R) (P := P) (f := f) (row := row) (k := k) j fun i hi => h i (by omega)
    have e : setsF R P f row (j + 1) = (setsF R P f row j).set (P.getD j 0) (-(ent (R.getD j []) f)) := by
      unfold setsF
      rw [List.range_succ, List.foldl_append]
      rfl
    rw [e, ent_set, if_neg (fun z => h j (by omega) z.1), ih]
theorem setsF_at {R : List (List F)} {P : List Nat} {f : Nat} {row : List F} {k i : Nat} (hk : k < row.length) (hi : P.getD i 0 = k) : ∀ j, i < j → (∀ i' < j, P.getD i' 0 = k → i' = i) → ent (setsF R P f row j) k = -(ent (R.getD i []) f)
  | j + 1, hj, h => by
    have e : setsF R P f row (j + 1) = (setsF R P f row j).set (P.getD j 0) (-(ent (R.getD j []) f)) := by
      unfold setsF
      rw [List.range_succ, List.foldl_append]
      rfl
    rw [e, ent_set, setsF_len]
    by_cases z : P.getD j 0 = k
    · rw [if_pos ⟨z, hk⟩, h j (by omega) z]
    · have hij : i ≠ j := fun q => z (q ▸ hi)
      rw [if_neg (fun q => z q.1)]
      exact setsF_at hk hi j (by omega) fun i' h' => h i' (by omega)
theorem frees_mem {w : Nat} {P : List Nat} {k : Nat} : k ∈ frees w P ↔ k < w ∧ k ∉ P := by
  unfold frees
  rw [List.mem_filter, List.mem_range]
  simp
theorem frees_nodup {w : Nat} {P : List Nat} : (frees w P).Nodup := List.Nodup.sublist List.filter_sublist List.nodup_range
theorem comb_map {α : Type} (d : α → List F) (v : α → F) (k : Nat) : ∀ l : List α, comb (l.map d) (l.map v) k = lsum (l.map fun f => v f * ent (d f) k)
  | [] => rfl
  | f :: l => by rw [List.map_cons, List.map_cons, comb, comb_map d v k l, List.map_cons, lsum_cons]
section
variable {w : Nat} {R : List (List F)} {P : List Nat} (h : Pln w R P)
include h
theorem Pln.nd : P.Nodup := h.asc.imp fun q => Nat.ne_of_lt q
theorem Pln.getD_inj {i j : Nat} (hi : i < R.length) (hj : j < R.length) (e : P.getD i 0 = P.getD j 0) : i = j := by
  have hl := h.len
  rw [List.getD_eq_getElem?_getD, List.getD_eq_getElem?_getD, List.getElem?_eq_getElem (by omega), List.getElem?_eq_getElem (by omega)] at e
  exact nodup_inj h.nd (by omega) (by omega) (by simpa using e)
theorem drow_len {f : Nat} : (drow w R P f).length = w := by
  unfold drow
  rw [setsF_len]
  simp
theorem drow_free {f k : Nat} (hf : f < w) (hk : k < w) (hn : k ∉ P) : ent (drow w R P f) k = if k = f then 1 else 0 := by
  have hl := h.len
  unfold drow
  rw [setsF_ne R.length fun i hi e => hn (by
    rw [List.getD_eq_getElem?_getD, List.getElem?_eq_getElem (by omega)] at e
    have e' : P[i]'(by omega) = k := by simpa using e
    rw [← e']
    exact List.getElem_mem _), ent_set]
  by_cases z : f = k
  · rw [if_pos ⟨z, by simpa using hk⟩, if_pos z.symm]
  · rw [if_neg (fun q => z q.1), if_neg (fun q => z q.symm)]
    rw [ent_lt (by simpa using hk)]
    simp
theorem drow_lead {f i p : Nat} {r : List F} (hr : R[i]? = some r) (hp : P[i]? = some p) : ent (drow w R P f) p = -(ent r f) := by
  have hl := h.len
  have hi := (List.getElem?_eq_some_iff.mp hr).1
  have hpw := h.lt p (List.mem_of_getElem? hp)
  unfold drow
  have hd : P.getD i 0 = p := by rw [List.getD_eq_getElem?_getD, hp]; rfl
  rw [setsF_at (i := i) (by simpa using hpw) hd R.length hi fun i' h' e' => h.getD_inj h' hi (e'.trans hd.symm)]
  rw [List.getD_eq_getElem?_getD, hr]
  rfl
theorem dual_ind : Ind ((frees w P).map (drow w R P)) (frees w P) := by
  refine ⟨by simp, fun i j r p hr hp => ?_⟩
  rw [List.getElem?_map] at hr
  obtain ⟨f, hf, rfl⟩ := Option.map_eq_some_iff.mp hr
  obtain ⟨f1, _⟩ := frees_mem.mp (List.mem_of_getElem? hf)
  obtain ⟨p1, p2⟩ := frees_mem.mp (List.mem_of_getElem? hp)
  rw [drow_free h f1 p1 p2]
  obtain ⟨a1, a2⟩ := List.getElem?_eq_some_iff.mp hf
  obtain ⟨b1, b2⟩ := List.getElem?_eq_some_iff.mp hp
  by_cases e : i = j
  · subst e
    rw [if_pos rfl, if_pos (b2.symm.trans a2)]
  · rw [if_neg e, if_neg fun q => e (nodup_inj frees_nodup a1 b1 (a2.trans (q.symm.trans b2.symm)))]
theorem dual_wid : ∀ r ∈ (frees w P).map (drow w R P), r.length = w := fun r hr => by
  obtain ⟨f, _, rfl⟩ := List.mem_map.mp hr
  exact drow_len h
theorem dot_split {i p : Nat} {r : List F} (hr : R[i]? = some r) (hp : P[i]? = some p) (v : Nat → F) : dotW w (ent r) v = v p + lsum ((frees w P).map fun f => ent r f * v f) := by
  have hl := h.len
  unfold dotW
  have pm := (List.filter_append_perm (fun k => P.contains k) (List.range w)).map fun k => ent r k * v k
  rw [← lsum_perm pm, List.map_append, lsum_append]
  have e1 : lsum (((List.range w).filter fun k => P.contains k).map fun k => ent r k * v k) = ent r p * v p := by
    refine lsum_single (p := p) (List.Nodup.sublist List.filter_sublist List.nodup_range) (List.mem_filter.mpr ⟨List.mem_range.mpr (h.lt p (List.mem_of_getElem? hp)), by simpa using List.mem_of_getElem? hp⟩) fun k hk hne => ?_
    have hk2 : k ∈ P := by simpa using (List.mem_filter.mp hk).2
    obtain ⟨j, hj, e⟩ := List.mem_iff_getElem.mp hk2
    have hq : P[j]? = some k := by rw [List.getElem?_eq_getElem hj, e]
    rw [h.dia i j r k hr hq, if_neg]
    · grind
    · intro e2
      subst e2
      rw [hq] at hp
      exact hne (Option.some.inj hp)
  rw [e1, h.dia i i r p hr hp, if_pos rfl]
  show 1 * v p + lsum ((frees w P).map fun k => ent r k * v k) = _
  grind
theorem comb_dual {i p : Nat} {r : List F} (hr : R[i]? = some r) (hp : P[i]? = some p) (v : Nat → F) : comb ((frees w P).map (drow w R P)) ((frees w P).map v) p = -(lsum ((frees w P).map fun f => ent r f * v f)) := by
  rw [comb_map, ← lsum_neg]
  congr 1
  exact List.map_congr_left fun f _ => by rw [drow_lead h hr hp]; grind
/-- the sums of the checks' rows are what all rows are 0 with -/
theorem dual_spn {v : Nat → F} (hv : ∀ k, w ≤ k → v k = 0) : Spn ((frees w P).map (drow w R P)) v ↔ ∀ r ∈ R, dotW w (ent r) v = 0 := by
  have hl := h.len
  constructor
  · intro hs r hr
    obtain ⟨i, hi, e⟩ := List.mem_iff_getElem.mp hr
    have hr' : R[i]? = some r := by rw [List.getElem?_eq_getElem hi, e]
    have hp : P[i]? = some (P[i]'(by omega)) := List.getElem?_eq_getElem _
    rw [dot_split h hr' hp, (dual_ind h).spn hs (P[i]'(by omega)), comb_dual h hr' hp]
    grind
  · intro hd
    refine ⟨(frees w P).map v, by simp, fun k => ?_⟩
    rcases Nat.lt_or_ge k w with hk | hk
    · by_cases hm : k ∈ P
      · obtain ⟨i, hi, e⟩ := List.mem_iff_getElem.mp hm
        have hp : P[i]? = some k := by rw [List.getElem?_eq_getElem hi, e]
        have hr' : R[i]? = some (R[i]'(by omega)) := List.getElem?_eq_getElem _
        have := hd _ (List.getElem_mem (show i < R.length by omega))
        rw [dot_split h hr' hp] at this
        rw [comb_dual h hr' hp]
        grind
      · obtain ⟨j, hj, e⟩ := List.mem_iff_getElem.mp (frees_mem.mpr ⟨hk, hm⟩)
        rw [(dual_ind h).coord (by simp) (show (frees w P)[j]? = some k by rw [List.getElem?_eq_getElem hj, e]), List.getD_eq_getElem?_getD, List.getElem?_map, List.getElem?_eq_getElem hj, e]
        rfl
    · rw [hv k hk, comb_ge (dual_wid h) hk]
theorem frees_len : (frees w P).length + R.length = w := by
  have hl := h.len
  have e := (List.filter_append_perm (fun k => P.contains k) (List.range w)).length_eq
  rw [List.length_append, List.length_range] at e
  have h1 : ((List.range w).filter fun k => P.contains k).length = P.length := by
    apply Nat.le_antisymm
    · exact nodup_le (List.Nodup.sublist List.filter_sublist List.nodup_range) fun k hk => by simpa using (List.mem_filter.mp hk).2
    · exact nodup_le h.nd fun k hk => List.mem_filter.mpr ⟨List.mem_range.mpr (h.lt k hk), by simpa using hk⟩
  rw [h1] at e
  have e2 : ((List.range w).filter fun k => !P.contains k).length = (frees w P).length := rfl
  omega
end
/-- the checks of rows -/
def kernelF (w : Nat) (rows : List (List F)) : List (List F) := plainF w ((frees w (leadsF (plainF w rows))).map (drow w (plainF w rows) (leadsF (plainF w rows))))
theorem Spn.ge {w : Nat} {R : List (List F)} (hR : ∀ r ∈ R, r.length = w) {v : Nat → F} (hv : Spn R v) (k : Nat) (hk : w ≤ k) : v k = 0 := by
  obtain ⟨m, _, e⟩ := hv
  rw [e, comb_ge hR hk]
section
variable {w : Nat} {rows : List (List F)} (hw : ∀ r ∈ rows, r.length = w)
include hw
theorem plain_pln : Pln w (plainF w rows) (leadsF (plainF w rows)) := by
  obtain ⟨⟨P, hP⟩, _⟩ := plainF_ok hw
  rw [hP.leads]
  exact hP
theorem kernel_pln : Pln w (kernelF w rows) (leadsF (kernelF w rows)) := plain_pln (dual_wid (plain_pln hw))
theorem plain_spn (v : Nat → F) : Spn (plainF w rows) v ↔ Spn rows v := (plainF_ok hw).2.1 v
theorem dot_all {v : Nat → F} : (∀ r ∈ plainF w rows, dotW w (ent r) v = 0) ↔ ∀ r ∈ rows, dotW w (ent r) v = 0 := by
  constructor
  · intro h r hr
    have := (plain_spn hw (ent r)).mpr (Spn.mem hr)
    rw [dotW_comm]
    exact dotW_spn (fun s hs => (dotW_comm _ _ _).trans (h s hs)) this
  · intro h r hr
    have := (plain_spn hw (ent r)).mp (Spn.mem hr)
    rw [dotW_comm]
    exact dotW_spn (fun s hs => (dotW_comm _ _ _).trans (h s hs)) this
theorem kernel_spn {v : Nat → F} (hv : ∀ k, w ≤ k → v k = 0) : Spn (kernelF w rows) v ↔ ∀ r ∈ rows, dotW w (ent r) v = 0 := by
  have hp := plain_pln hw
  rw [show kernelF w rows = plainF w _ from rfl, plain_spn (dual_wid hp), dual_spn hp hv, dot_all hw]
end
section
variable {E : List F} (hE : E.Nodup) (hE2 : ∀ x : F, x ∈ E) (h2 : 2 ≤ E.length) {w : Nat} {R : List (List F)} {P : List Nat} (h : Pln w R P)
include hE hE2 h2
theorem kernel_len {rows : List (List F)} (hw : ∀ r ∈ rows, r.length = w) : (kernelF w rows).length + (plainF w rows).length = w := by
  have hp := plain_pln hw
  have hk := kernel_pln hw
  have hd := dual_wid hp
  have e := frees_len hp
  have l1 := ind_le hE hE2 h2 hk.wid hd hk.ind (dual_ind hp) fun v hv => (plain_spn hd v).mp hv
  have l2 := ind_le hE hE2 h2 hd hk.wid (dual_ind hp) hk.ind fun v hv => (plain_spn hd v).mpr hv
  rw [List.length_map] at l1 l2
  omega
include h
/-- the dual of the dual is the code -/
theorem kernel_kernel : kernelF w (kernelF w R) = R := by
  have hk := kernel_pln h.wid
  have hkk := kernel_pln hk.wid
  have l1 := kernel_len hE hE2 h2 h.wid
  have l2 := kernel_len hE hE2 h2 hk.wid
  rw [plainF_id h] at l1
  rw [plainF_id hk] at l2
  have inc : ∀ v, Spn R v → Spn (kernelF w (kernelF w R)) v := fun v hv => (kernel_spn hk.wid (hv.ge h.wid)).mpr fun r hr => by
    have hs := (kernel_spn h.wid ((Spn.mem hr).ge hk.wid)).mp (Spn.mem hr)
    exact dotW_spn (fun s hs' => (dotW_comm _ _ _).trans (hs s hs')) hv
  exact ((h.uniq hkk fun v => ⟨inc v, fun hv => ind_eq hE hE2 h2 h.wid hkk.wid h.ind hkk.ind inc (by omega) hv⟩).1).symm
end
end
end LA

set_option autoImplicit false
/-! Lin4: maps of words, and the codes that they make. -/
namespace LA
section
variable {F : Type} [Lean.Grind.Field F] [DecidableEq F]
structure LinM (φ : (Nat → F) → Nat → F) : Prop where
  lin : ∀ (c : F) (u v : Nat → F) (k : Nat), φ (fun j => c * u j + v j) k = c * φ u k + φ v k
  nul : ∀ k, φ (fun _ => 0) k = 0
theorem comb_phi {φ : (Nat → F) → Nat → F} (L : LinM φ) {f : List F → List F} : ∀ (A : List (List F)) (m : List F), (∀ r ∈ A, ∀ k, ent (f r) k = φ (ent r) k) → ∀ k, comb (A.map f) m k = φ (comb A m) k
  | [], m, _, k => by
    have e : (comb ([] : List (List F)) m) = fun _ => 0 := by
      funext j
      cases m <;> rfl
    rw [e, L.nul]
    cases m <;> rfl
  | r :: A, [], h, k => by
    have e : (comb (r :: A) ([] : List F)) = fun _ => 0 := rfl
    rw [e, L.nul]
    rfl
  | r :: A, x :: m, h, k => by
    have ih := comb_phi L A m (fun r hr => h r (List.mem_cons_of_mem _ hr)) k
    have e : (comb (r :: A) (x :: m)) = fun j => x * ent r j + comb A m j := rfl
    rw [e, L.lin, ← ih, ← h r List.mem_cons_self k]
    rfl
theorem spn_phi {φ : (Nat → F) → Nat → F} (L : LinM φ) {f : List F → List F} {A : List (List F)} (h : ∀ r ∈ A, ∀ k, ent (f r) k = φ (ent r) k) {v : Nat → F} : Spn (A.map f) v ↔ ∃ u, Spn A u ∧ ∀ k, v k = φ u k := by
  constructor
  · rintro ⟨m, hm, e⟩
    rw [List.length_map] at hm
    exact ⟨comb A m, ⟨m, hm, fun _ => rfl⟩, fun k => (e k).trans (comb_phi L A m h k)⟩
  · rintro ⟨u, ⟨m, hm, e⟩, e2⟩
    refine ⟨m, by rw [List.length_map]; exact hm, fun k => ?_⟩
    have : u = comb A m := funext e
    rw [e2, this, comb_phi L A m h k]
theorem spn_append {A B : List (List F)} {v : Nat → F} : Spn (A ++ B) v ↔ ∃ a b, Spn A a ∧ Spn B b ∧ ∀ k, v k = a k + b k := by
  constructor
  · rintro ⟨m, hm, e⟩
    rw [List.length_append] at hm
    have e1 : m = m.take A.length ++ m.drop A.length := (List.take_append_drop _ _).symm
    have hl : (m.take A.length).length = A.length := by rw [List.length_take]; omega
    refine ⟨comb A (m.take A.length), comb B (m.drop A.length), ⟨_, hl, fun _ => rfl⟩, ⟨_, by rw [List.length_drop]; omega, fun _ => rfl⟩, fun k => ?_⟩
    rw [e k]
    conv => lhs; rw [e1]
    exact comb_append A B _ _ k hl
  · rintro ⟨a, b, ⟨m, hm, ea⟩, ⟨l, hl, eb⟩, e⟩
    refine ⟨m ++ l, by rw [List.length_append, List.length_append, hm, hl], fun k => ?_⟩
    rw [comb_append A B m l k hm, e, ea, eb]
/-- the word of a function -/
def wordF (w : Nat) (v : Nat → F) : List F := (List.range w).map v
theorem wordF_len {w : Nat} {v : Nat → F} : (wordF w v).length = w := by simp [wordF]
theorem ent_word {w : Nat} {v : Nat → F} (h : ∀ k, w ≤ k → v k = 0) (k : Nat) : ent (wordF w v) k = v k := by
  by_cases hk : k < w
  · exact ent_range hk
  · rw [ent_ge (by rw [wordF_len]; omega), h k (by omega)]
theorem spn_word {w : Nat} {A : List (List F)} (hA : ∀ r ∈ A, r.length = w) {u : Nat → F} (h : Spn A u) : Spn A (ent (wordF w u)) := h.congr fun k => ent_word (fun k hk => h.ge hA k hk) k
/-- the words of a made code -/
theorem map_words {φ : (Nat → F) → Nat → F} (L : LinM φ) {f : List F → List F} {w w' : Nat} {A : List (List F)} (hA : ∀ r ∈ A, r.length = w) (hf : ∀ r, r.length = w → (f r).length = w' ∧ ∀ k, ent (f r) k = φ (ent r) k) {v : List F} :
    v.length = w' ∧ Spn (A.map f) (ent v) ↔ ∃ u, u.length = w ∧ Spn A (ent u) ∧ v = f u := by
  have h : ∀ r ∈ A, ∀ k, ent (f r) k = φ (ent r) k := fun r hr => (hf r (hA r hr)).2
  rw [spn_phi L h]
  constructor
  · rintro ⟨hv, u, hu, e⟩
    have hg := fun k hk => hu.ge hA k hk
    refine ⟨wordF w u, wordF_len, spn_word hA hu, ?_⟩
    obtain ⟨h1, h2⟩ := hf (wordF w u) wordF_len
    refine ent_ext (by rw [hv, h1]) fun k _ => ?_
    have : ent (wordF w u) = u := funext fun k => ent_word hg k
    rw [h2 k, this, e k]
  · rintro ⟨u, hu, hs, rfl⟩
    obtain ⟨h1, h2⟩ := hf u hu
    exact ⟨h1, ent u, hs, h2⟩
end
end LA

set_option autoImplicit false
/-! Lin5: weights of words, counted by places and by messages; disjoint balls. -/
namespace LA
theorem snoc_ind {α : Type} {P : List α → Prop} (h0 : P []) (h1 : ∀ l x, P l → P (l ++ [x])) : ∀ l, P l := fun l => by
  have h : ∀ l : List α, P l.reverse := fun l => by
    induction l with
    | nil => exact h0
    | cons x l ih =>
      rw [List.reverse_cons]
      exact h1 _ _ ih
  have := h l.reverse
  rwa [List.reverse_reverse] at this
def tot (l : List Nat) : Nat := l.foldr (· + ·) 0
theorem tot_cons (x : Nat) (l : List Nat) : tot (x :: l) = x + tot l := rfl
theorem tot_app : ∀ l k : List Nat, tot (l ++ k) = tot l + tot k
  | [], k => by simp [tot]
  | x :: l, k => by
    rw [List.cons_append, tot_cons, tot_cons, tot_app l k]
    omega
theorem tot_ge {α : Type} {f : α → Nat} {c : Nat} : ∀ {l : List α}, (∀ x ∈ l, c ≤ f x) → l.length * c ≤ tot (l.map f)
  | [], _ => by simp [tot]
  | x :: l, h => by
    rw [List.map_cons, tot_cons, List.length_cons, Nat.add_mul, Nat.one_mul]
    have := tot_ge (l := l) fun y hy => h y (List.mem_cons_of_mem _ hy)
    have := h x List.mem_cons_self
    omega
theorem tot_le {α : Type} {f : α → Nat} {c : Nat} : ∀ {l : List α}, (∀ x ∈ l, f x ≤ c) → tot (l.map f) ≤ l.length * c
  | [], _ => by simp [tot]
  | x :: l, h => by
    rw [List.map_cons, tot_cons, List.length_cons, Nat.add_mul, Nat.one_mul]
    have := tot_le (l := l) fun y hy => h y (List.mem_cons_of_mem _ hy)
    have := h x List.mem_cons_self
    omega
theorem tot_congr {α : Type} {f g : α → Nat} {l : List α} (h : ∀ x ∈ l, f x = g x) : tot (l.map f) = tot (l.map g) := by rw [List.map_congr_left h]
theorem tot_mul {α : Type} {f : α → Nat} (c : Nat) : ∀ l : List α, c * tot (l.map f) = tot (l.map fun x => c * f x)
  | [] => rfl
  | x :: l => by rw [List.map_cons, List.map_cons, tot_cons, tot_cons, Nat.mul_add, tot_mul c l]
theorem tot_add {α : Type} {f g : α → Nat} : ∀ l : List α, tot (l.map fun x => f x + g x) = tot (l.map f) + tot (l.map g)
  | [] => rfl
  | x :: l => by
    rw [List.map_cons, List.map_cons, List.map_cons, tot_cons, tot_cons, tot_cons, tot_add l]
    omega
theorem tot_mono {α : Type} {f g : α → Nat} : ∀ {l : List α}, (∀ x ∈ l, f x ≤ g x) → tot (l.map f) ≤ tot (l.map g)
  | [], _ => Nat.le_refl _
  | x :: l, h => by
    rw [List.map_cons, List.map_cons, tot_cons, tot_cons]
    have := tot_mono (l := l) fun y hy => h y (List.mem_cons_of_mem _ hy)
    have := h x List.mem_cons_self
    omega
theorem count_flat {α β : Type} (p : β → Bool) (f : α → List β) : ∀ l : List α, (l.flatMap f).countP p = tot (l.map fun x => (f x).countP p)
  | [] => rfl
  | x :: l => by rw [List.flatMap_cons, List.countP_append, count_flat p f l, List.map_cons, tot_cons]
theorem count_tot {α : Type} (p : α → Bool) : ∀ l : List α, l.countP p = tot (l.map fun x => if p x then 1 else 0)
  | [] => rfl
  | x :: l => by
    rw [List.countP_cons, count_tot p l, List.map_cons, tot_cons]
    omega
/-- counted both ways -/
theorem tot_swap {α β : Type} (f : α → β → Nat) (k : List β) : ∀ l : List α, tot (l.map fun x => tot (k.map (f x))) = tot (k.map fun y => tot (l.map fun x => f x y))
  | [] => by
    have : ∀ k : List β, tot (k.map fun _ => 0) = 0 := fun k => by
      induction k with
      | nil => rfl
      | cons y k ih => rw [List.map_cons, tot_cons, ih]
    simpa [tot] using (this k).symm
  | x :: l => by
    rw [List.map_cons, tot_cons, tot_swap f k l, ← tot_add]
    rfl
theorem count_not {α : Type} (p : α → Bool) : ∀ l : List α, l.countP p + l.countP (fun x => !p x) = l.length
  | [] => rfl
  | x :: l => by
    have := count_not p l
    rw [List.countP_cons, List.countP_cons, List.length_cons]
    cases p x <;> simp <;> omega
section
variable {F : Type} [Lean.Grind.Field F] [DecidableEq F] {E : List F} (hE : E.Nodup) (hE2 : ∀ x : F, x ∈ E)
/-- messages whose word is 0 at a place -/
def zer (E : List F) (R : List (List F)) (k : Nat) : Nat := (allW E R.length).countP fun m => decide (comb R m k = 0)
def non (E : List F) (R : List (List F)) (k : Nat) : Nat := (allW E R.length).countP fun m => !decide (comb R m k = 0)
theorem zer_non (R : List (List F)) (k : Nat) : zer E R k + non E R k = E.length ^ R.length := by
  unfold zer non
  rw [count_not, allW_len]
theorem comb_snoc {R : List (List F)} {m : List F} (r : List F) (x : F) (k : Nat) (h : m.length = R.length) : comb (R ++ [r]) (m ++ [x]) k = comb R m k + x * ent r k := by
  rw [comb_append R [r] m [x] k h]
  simp only [comb]
  grind
include hE2 in
theorem zer_ge (k : Nat) : ∀ R : List (List F), E.length ^ R.length ≤ E.length * zer E R k := by
  refine snoc_ind ?_ fun R r ih => ?_
  · have : zer E ([] : List (List F)) k = 1 := by simp [zer, allW, comb]
    rw [this]
    have : 0 < E.length := List.length_pos_of_mem (hE2 0)
    simp
    omega
  · have e : zer E (R ++ [r]) k = tot ((allW E R.length).map fun m => E.countP fun x => decide (comb R m k + x * ent r k = 0)) := by
      unfold zer
      rw [List.length_append, List.length_singleton, allW, count_flat]
      refine tot_congr fun m hm => ?_
      rw [List.countP_map]
      refine List.countP_congr fun x _ => ?_
      have := comb_snoc r x k ((allW_mem hE2).mp hm)
      simp only [Function.comp, this]
    rw [e, List.length_append, List.length_singleton, Nat.pow_succ]
    by_cases h0 : ent r k = 0
    · have e2 : tot ((allW E R.length).map fun m => E.countP fun x => decide (comb R m k + x * ent r k = 0)) = E.length * zer E R k := by
        unfold zer
        rw [count_tot, tot_mul]
        refine tot_congr fun m _ => ?_
        by_cases hc : comb R m k = 0
        · have : ∀ x : F, (0 : F) + x * ent r k = 0 := fun x => by grind
          simp [this, hc]
        · have : ∀ x : F, ¬ comb R m k + x * ent r k = 0 := fun x => by grind
          simp [this, hc]
      rw [e2, Nat.mul_comm]
      exact Nat.mul_le_mul_left _ ih
    · have : (allW E R.length).length * 1 ≤ tot ((allW E R.length).map fun m => E.countP fun x => decide (comb R m k + x * ent r k = 0)) := by
        refine tot_ge fun m _ => ?_
        refine List.countP_pos_iff.mpr ⟨-(comb R m k) * (ent r k)⁻¹, hE2 _, ?_⟩
        apply decide_eq_true
        grind
      rw [allW_len, Nat.mul_one] at this
      rw [Nat.mul_comm]
      exact Nat.mul_le_mul_left _ this
include hE2 in
theorem non_le (R : List (List F)) (k : Nat) : E.length * non E R k ≤ (E.length - 1) * E.length ^ R.length := by
  have h1 := zer_ge hE2 k R
  have h2 := zer_non (E := E) R k
  have h3 : E.length * zer E R k + E.length * non E R k = E.length * E.length ^ R.length := by rw [← Nat.mul_add, h2]
  rw [Nat.sub_mul, Nat.one_mul]
  omega
/-- the weight of the word of a message -/
def wtC (w : Nat) (R : List (List F)) (m : List F) : Nat := (List.range w).countP fun k => !decide (comb R m k = 0)
theorem wt_swap (w : Nat) (R : List (List F)) : tot ((allW E R.length).map (wtC w R)) = tot ((List.range w).map (non E R)) := by
  have e1 : tot ((allW E R.length).map (wtC w R)) = tot ((allW E R.length).map fun m => tot ((List.range w).map fun k => if !decide (comb R m k = 0) then 1 else 0)) :=
    tot_congr fun m _ => by
      unfold wtC
      rw [count_tot]
  rw [e1, tot_swap]
  refine tot_congr fun k _ => ?_
  unfold non
  rw [count_tot]
include hE2 hE in
/-- the bound by the sum of weights, of rows that are 0 at some places -/
theorem sum_bound {w d : Nat} {R : List (List F)} {O : List Nat} (ho : O.Nodup) (hlt : ∀ k ∈ O, k < w) (h0 : ∀ k ∈ O, ∀ m : List F, comb R m k = 0)
    (hd : ∀ m : List F, m.length = R.length → m ≠ List.replicate R.length 0 → d ≤ wtC w R m) :
    E.length * ((E.length ^ R.length - 1) * d) ≤ (w - O.length) * ((E.length - 1) * E.length ^ R.length) := by
  have h1 : (E.length ^ R.length - 1) * d ≤ tot ((allW E R.length).map (wtC w R)) := by
    have hz : List.replicate R.length (0 : F) ∈ allW E R.length := (allW_mem hE2).mpr (by simp)
    have hl := List.length_erase_of_mem hz
    have e : tot ((allW E R.length).map (wtC w R)) = wtC w R (List.replicate R.length 0) + tot (((allW E R.length).erase (List.replicate R.length 0)).map (wtC w R)) := by
      have hp := (List.perm_cons_erase hz).map (wtC w R)
      have ht : ∀ {l k : List Nat}, l.Perm k → tot l = tot k := fun h => by
        induction h with
        | nil => rfl
        | cons x _ ih => rw [tot_cons, tot_cons, ih]
        | swap x y l => simp only [tot_cons]; omega
        | trans _ _ a b => rw [a, b]
      rw [ht hp, List.map_cons, tot_cons]
    have h2 : ((allW E R.length).erase (List.replicate R.length 0)).length * d ≤ tot (((allW E R.length).erase (List.replicate R.length 0)).map (wtC w R)) := by
      refine tot_ge fun m hm => ?_
      have hn := allW_nodup hE R.length
      have hm2 := (List.Nodup.mem_erase_iff hn).mp hm
      exact hd m ((allW_mem hE2).mp hm2.2) hm2.1
    rw [hl, allW_len] at h2
    omega
  rw [wt_swap] at h1
  have h3 : E.length * tot ((List.range w).map (non E R)) ≤ (w - O.length) * ((E.length - 1) * E.length ^ R.length) := by
    rw [tot_mul]
    have hs : tot ((List.range w).map fun k => E.length * non E R k) = tot (((List.range w).filter fun k => !O.contains k).map fun k => E.length * non E R k) := by
      have : ∀ l : List Nat, tot (l.map fun k => E.length * non E R k) = tot ((l.filter fun k => !O.contains k).map fun k => E.length * non E R k) := fun l => by
        induction l with
        | nil => rfl
        | cons x l ih =>
          rw [List.map_cons, tot_cons, ih]
          by_cases hx : x ∈ O
          · have hn : non E R x = 0 := by
              unfold non
              rw [List.countP_eq_zero]
              intro m _
              simp [h0 x hx m]
            have : (!O.contains x) = false := by simp [hx]
            rw [List.filter_cons, this, hn]
            simp
          · have : (!O.contains x) = true := by simp [hx]
            rw [List.filter_cons, this]
            simp only [if_true, List.map_cons, tot_cons]
      exact this _
    rw [hs]
    refine Nat.le_trans (tot_le (c := (E.length - 1) * E.length ^ R.length) fun k _ => non_le hE2 R k) ?_
    refine Nat.mul_le_mul_right _ ?_
    have e := (List.filter_append_perm (fun k => O.contains k) (List.range w)).length_eq
    rw [List.length_append, List.length_range] at e
    have : O.length ≤ ((List.range w).filter fun k => O.contains k).length := nodup_le ho fun k hk => List.mem_filter.mpr ⟨List.mem_range.mpr (hlt k hk), by simpa using hk⟩
    omega
  exact Nat.le_trans (Nat.mul_le_mul_left _ h1) h3
end
end LA

set_option autoImplicit false
/-! Lin6: the bounds of plain rows. -/
namespace LA
/-- numbers of lots -/
def bin : Nat → Nat → Nat
  | _, 0 => 1
  | 0, _ + 1 => 0
  | n + 1, k + 1 => bin n k + bin n (k + 1)
def ballN (n s r : Nat) : Nat := tot ((List.range (r + 1)).map fun k => bin n k * (s - 1) ^ k)
section
variable {F : Type} [Lean.Grind.Field F] [DecidableEq F]
def wtV (v : List F) : Nat := v.countP fun x => !decide (x = 0)
theorem wtV_app (u v : List F) : wtV (u ++ v) = wtV u + wtV v := List.countP_append
theorem wtV_le (v : List F) : wtV v ≤ v.length := List.countP_le_length
theorem wtV_ent : ∀ (v : List F), wtV v = (List.range v.length).countP fun k => !decide (ent v k = 0) := by
  refine snoc_ind rfl fun v x ih => ?_
  rw [wtV_app, List.length_append, List.length_singleton, List.range_succ, List.countP_append, ih]
  have h1 : (List.range v.length).countP (fun k => !decide (ent v k = 0)) = (List.range v.length).countP (fun k => !decide (ent (v ++ [x]) k = 0)) := by
    refine List.countP_congr fun k hk => ?_
    have hk := List.mem_range.mp hk
    have : ent (v ++ [x]) k = ent v k := by
      unfold ent
      rw [List.getD_eq_getElem?_getD, List.getD_eq_getElem?_getD, List.getElem?_append_left hk]
    rw [this]
  have h2 : ent (v ++ [x]) v.length = x := by
    unfold ent
    rw [List.getD_eq_getElem?_getD, List.getElem?_append_right (Nat.le_refl _), Nat.sub_self]
    rfl
  rw [h1]
  simp [wtV, h2, List.countP_cons]
variable {E : List F} (hE : E.Nodup) (hE2 : ∀ x : F, x ∈ E)
/-- how many words have a weight -/
def cntW (E : List F) (n k : Nat) : Nat := (allW E n).countP fun v => wtV v == k
include hE hE2 in
theorem cnt_step (n k : Nat) : cntW E (n + 1) (k + 1) = cntW E n (k + 1) + (E.length - 1) * cntW E n k ∧ cntW E (n + 1) 0 = cntW E n 0 := by
  have hz : E.countP (fun x => decide (x = 0)) = 1 := by
    have : E.countP (fun x => decide (x = 0)) = E.count 0 := by
      unfold List.count
      refine List.countP_congr fun x _ => ?_
      simp
    rw [this]
    exact List.Nodup.count hE ▸ (by simp [hE2])
  have hn : E.countP (fun x => !decide (x = 0)) = E.length - 1 := by
    have := count_not (fun x : F => decide (x = 0)) E
    omega
  have e : ∀ j, cntW E (n + 1) j = tot ((allW E n).map fun v => E.countP fun x => (wtV v + (if x = 0 then 0 else 1)) == j) := fun j => by
    unfold cntW
    rw [allW, count_flat]
    refine tot_congr fun v _ => ?_
    rw [List.countP_map]
    refine List.countP_congr fun x _ => ?_
    have : wtV (v ++ [x]) = wtV v + (if x = 0 then 0 else 1) := by
      rw [wtV_app]
      by_cases h : x = 0 <;> simp [wtV, h]
    simp only [Function.comp, this]
  have inner : ∀ v : List F, ∀ j, E.countP (fun x => (wtV v + (if x = 0 then 0 else 1)) == j) = (if wtV v = j then 1 else 0) + (if wtV v + 1 = j then E.length - 1 else 0) := fun v j => by
    by_cases h1 : wtV v = j
    · have : E.countP (fun x => (wtV v + (if x = 0 then 0 else 1)) == j) = E.countP (fun x => decide (x = 0)) := List.countP_congr fun x _ => by
        by_cases h : x = 0
        · simp [h, h1]
        · simp [h, h1]
      rw [this, hz, if_pos h1, if_neg (by omega)]
    · by_cases h2 : wtV v + 1 = j
      · have : E.countP (fun x => (wtV v + (if x = 0 then 0 else 1)) == j) = E.countP (fun x => !decide (x = 0)) := List.countP_congr fun x _ => by
          by_cases h : x = 0
          · simp [h]
            omega
          · simp [h, h2]
        rw [this, hn, if_neg h1, if_pos h2]
        omega
      · have : E.countP (fun x => (wtV v + (if x = 0 then 0 else 1)) == j) = 0 := List.countP_eq_zero.mpr fun x _ => by
          by_cases h : x = 0
          · simp [h, h1]
          · simp [h, h2]
        rw [this, if_neg h1, if_neg h2]
  constructor
  · rw [e, tot_congr fun v _ => inner v (k + 1), tot_add]
    unfold cntW
    rw [count_tot, count_tot (fun v => wtV v == k), tot_mul]
    congr 1
    · refine tot_congr fun v _ => ?_
      by_cases h : wtV v = k + 1 <;> simp [h]
    · refine tot_congr fun v _ => ?_
      by_cases h : wtV v = k
      · simp [h]
      · have : ¬ wtV v + 1 = k + 1 := by omega
        simp [h]
  · rw [e, tot_congr fun v _ => inner v 0]
    unfold cntW
    rw [count_tot]
    refine tot_congr fun v _ => ?_
    by_cases h : wtV v = 0 <;> simp [h]
include hE hE2 in
theorem cnt_eq : ∀ n k : Nat, cntW E n k = bin n k * (E.length - 1) ^ k
  | 0, 0 => rfl
  | 0, k + 1 => by
    have : cntW E 0 (k + 1) = 0 := rfl
    rw [this, bin, Nat.zero_mul]
  | n + 1, 0 => by
    rw [(cnt_step hE hE2 n 0).2, cnt_eq n 0]
    cases n <;> rfl
  | n + 1, k + 1 => by
    rw [(cnt_step hE hE2 n k).1, cnt_eq n (k + 1), cnt_eq n k, bin, Nat.add_mul, Nat.pow_succ]
    have : (E.length - 1) * (bin n k * (E.length - 1) ^ k) = bin n k * ((E.length - 1) ^ k * (E.length - 1)) := by
      rw [Nat.mul_comm (E.length - 1), Nat.mul_assoc]
    omega
/-- words of small weight -/
def smallW (E : List F) (n t : Nat) : List (List F) := (allW E n).filter fun v => decide (wtV v ≤ t)
include hE hE2 in
theorem small_len (n t : Nat) : (smallW E n t).length = ballN n E.length t := by
  have h : ∀ t, (allW E n).countP (fun v => decide (wtV v ≤ t)) = tot ((List.range (t + 1)).map fun k => cntW E n k) := fun t => by
    induction t with
    | zero =>
      have : (List.range (0 + 1)).map (fun k => cntW E n k) = [cntW E n 0] := rfl
      rw [this]
      simp only [tot, List.foldr_cons, List.foldr_nil, Nat.add_zero]
      exact List.countP_congr fun v _ => by simp
    | succ t ih =>
      rw [List.range_succ, List.map_append, tot_app, ← ih]
      have : tot ([t + 1].map fun k => cntW E n k) = cntW E n (t + 1) := by simp [tot]
      rw [this]
      unfold cntW
      rw [count_tot, count_tot (fun v => decide (wtV v ≤ t)), count_tot (fun v => wtV v == t + 1), ← tot_add]
      refine tot_congr fun v _ => ?_
      by_cases h1 : wtV v ≤ t
      · have h2 : wtV v ≤ t + 1 := by omega
        have h3 : ¬ wtV v = t + 1 := by omega
        simp [h1, h2, h3]
      · by_cases h3 : wtV v = t + 1
        · simp [h3]
        · have h2 : ¬ wtV v ≤ t + 1 := by omega
          simp [h1, h2, h3]
  unfold smallW ballN
  rw [← List.countP_eq_length_filter, h]
  exact tot_congr fun k _ => cnt_eq hE hE2 n k
end
end LA

set_option autoImplicit false
/-! Lin7: spheres that do not meet; the bounds of plain rows, one for each number of last rows. -/
namespace LA
theorem count_or {α : Type} {p q r : α → Bool} : ∀ {l : List α}, (∀ x ∈ l, p x = true → q x = true ∨ r x = true) → l.countP p ≤ l.countP q + l.countP r
  | [], _ => Nat.zero_le _
  | x :: l, h => by
    have ih := count_or (l := l) fun y hy => h y (List.mem_cons_of_mem _ hy)
    have h1 := h x List.mem_cons_self
    rw [List.countP_cons, List.countP_cons, List.countP_cons]
    cases hp : p x <;> cases hq : q x <;> cases hr : r x <;> simp_all <;> omega
section
variable {F : Type} [Lean.Grind.Field F] [DecidableEq F] {E : List F} (hE : E.Nodup) (hE2 : ∀ x : F, x ∈ E)
def addV (w : Nat) (c e : List F) : List F := (List.range w).map fun k => ent c k + ent e k
theorem addV_len {w : Nat} {c e : List F} : (addV w c e).length = w := by simp [addV]
variable {w d : Nat} {R : List (List F)} {P : List Nat} (h : Pln w R P) (hd : ∀ m : List F, m.length = R.length → m ≠ List.replicate R.length 0 → d ≤ wtC w R m)
include hE hE2 h hd in
theorem spheres_le {t : Nat} (ht : 2 * t < d) : E.length ^ R.length * ballN w E.length t ≤ E.length ^ w := by
  have hn : ((wordsW E w R).flatMap fun c => (smallW E w t).map (addV w c)).Nodup := by
    rw [List.Nodup, List.pairwise_flatMap]
    refine ⟨fun c _ => ?_, ?_⟩
    · rw [List.pairwise_map]
      refine List.Pairwise.imp_of_mem (fun {a b} ha hb hab e => ?_) ((allW_nodup hE w).sublist List.filter_sublist)
      have la := (allW_mem hE2).mp (List.mem_filter.mp ha).1
      have lb := (allW_mem hE2).mp (List.mem_filter.mp hb).1
      refine hab (ent_ext (by rw [la, lb]) fun k hk => ?_)
      have hk : k < w := by omega
      have e1 : ent (addV w c a) k = ent (addV w c b) k := by rw [e]
      rw [addV, addV, ent_range hk, ent_range hk] at e1
      grind
    · refine List.Pairwise.imp_of_mem (fun {c c'} hc hc' hcc => ?_) (words_nodup hE hE2 h.wid h.ind)
      intro x hx y hy e
      obtain ⟨a, ha, rfl⟩ := List.mem_map.mp hx
      obtain ⟨b, hb, rfl⟩ := List.mem_map.mp hy
      have la := (allW_mem hE2).mp (List.mem_filter.mp ha).1
      have lb := (allW_mem hE2).mp (List.mem_filter.mp hb).1
      have wa := of_decide_eq_true (List.mem_filter.mp ha).2
      have wb := of_decide_eq_true (List.mem_filter.mp hb).2
      obtain ⟨lc, sc⟩ := (words_mem hE2 h.wid).mp hc
      obtain ⟨lc', sc'⟩ := (words_mem hE2 h.wid).mp hc'
      obtain ⟨m, hm, em⟩ := sc.add (sc'.smul (-1))
      by_cases hz : m = List.replicate R.length 0
      · refine hcc (ent_ext (by rw [lc, lc']) fun k hk => ?_)
        have := em k
        rw [hz, comb_zeros] at this
        grind
      · have h1 := hd m hm hz
        have h2 : wtC w R m ≤ wtV a + wtV b := by
          rw [wtV_ent, wtV_ent, la, lb]
          refine count_or fun k hk hp => ?_
          have hk := List.mem_range.mp hk
          have e1 : ent (addV w c a) k = ent (addV w c' b) k := by rw [e]
          rw [addV, addV, ent_range hk, ent_range hk] at e1
          have e2 := em k
          by_cases ha0 : ent a k = 0
          · right
            by_cases hb0 : ent b k = 0
            · have : comb R m k = 0 := by grind
              simp [this] at hp
            · simp [hb0]
          · left
            simp [ha0]
        omega
  have hl := nodup_le hn (k := allW E w) fun x hx => by
    obtain ⟨c, _, hx⟩ := List.mem_flatMap.mp hx
    obtain ⟨a, _, rfl⟩ := List.mem_map.mp hx
    exact (allW_mem hE2).mpr addV_len
  rw [List.length_flatMap, allW_len] at hl
  simp only [List.length_map] at hl
  rw [List.map_const', List.sum_replicate_nat, words_len, small_len hE hE2] at hl
  exact hl
include hE hE2 h hd in
theorem rows_le {j : Nat} (hj : j ≤ R.length) : E.length * ((E.length ^ j - 1) * d) ≤ (w - (R.length - j)) * ((E.length - 1) * E.length ^ j) := by
  obtain ⟨i, hi⟩ : ∃ i, i + j = R.length := ⟨R.length - j, by omega⟩
  have ej : (R.drop i).length = j := by rw [List.length_drop]; omega
  have ei : (P.take i).length = R.length - j := by rw [List.length_take, h.len]; omega
  have := sum_bound hE hE2 (w := w) (d := d) (R := R.drop i) (O := P.take i) (h.nd.sublist (List.take_sublist _ _)) (fun k hk => h.lt k (List.mem_of_mem_take hk)) (fun k hk m => ?_) (fun m hm hz => ?_)
  · rw [ej, ei] at this
    exact this
  · obtain ⟨l, hl, el⟩ := List.getElem_of_mem hk
    rw [List.length_take] at hl
    refine comb_none _ _ _ fun j' r hr => .inr ?_
    rw [List.getElem?_drop] at hr
    have hp : P[l]? = some k := by
      rw [← el, List.getElem_take, List.getElem?_eq_getElem]
    rw [h.dia _ _ r k hr hp, if_neg (by omega)]
  · have e : ∀ k, comb R (List.replicate i 0 ++ m) k = comb (R.drop i) m k := fun k => by
      have := comb_append (R.take i) (R.drop i) (List.replicate i 0) m k (by rw [List.length_replicate, List.length_take]; omega)
      rw [List.take_append_drop, comb_zeros] at this
      rw [this]
      grind
    have h1 := hd (List.replicate i 0 ++ m) (by rw [List.length_append, List.length_replicate, hm, ej]; exact hi) fun e2 => hz (by
      have : List.replicate R.length (0 : F) = List.replicate i 0 ++ List.replicate j 0 := by rw [List.replicate_append_replicate, hi]
      rw [this] at e2
      rw [ej]
      exact (List.append_inj' e2 (by rw [List.length_replicate, hm, ej])).2)
    unfold wtC at h1 ⊢
    simpa only [e] using h1
end
/-- the least length, by sums -/
def shF (s : Nat) : Nat → Nat → Nat
  | 0, _ => 0
  | r + 1, now => now + shF s r ((now + s - 1) / s)
def finOk (q w n d : Nat) : Bool :=
  !((List.range (n + 1)).all fun j => decide (q * ((q ^ j - 1) * d) ≤ (w - (n - j)) * ((q - 1) * q ^ j))) || !decide (q ^ n * ballN w q ((d - 1) / 2) ≤ q ^ w) ||
    (decide (q ^ n ≤ q ^ (w - d + 1)) && (decide (q * d ≤ (q - 1) * w) || decide (q ^ n ≤ q * d / (q * d - (q - 1) * w))) && decide (shF q n d ≤ w))
theorem fin_all : ([2, 3, 4].all fun q => (List.range 9).all fun w => (List.range (w + 1)).all fun n => (List.range (w + 1)).all fun d => decide (n = 0) || decide (d = 0) || finOk q w n d) = true := by decide +kernel
end LA

/-! Gf: the ten fields as Lean fields; their methods on them. -/
namespace FW
open PySem PySem.Spec L2
open PyProof.Rows hiding St
structure Sz where
  n : Nat
  h : n ∈ sizesN
structure GF (s : Sz) where
  val : Nat
  lt : val < s.n
theorem GF.ext' {s : Sz} {a b : GF s} (h : a.val = b.val) : a = b := by
  cases a
  cases b
  cases h
  rfl
instance {s : Sz} : DecidableEq (GF s) := fun a b => if h : a.val = b.val then .isTrue (GF.ext' h) else .isFalse fun e => h (by rw [e])
section
variable {s : Sz}
theorem Sz.two (s : Sz) : 2 ≤ s.n := (size_facts s.n s.h).1
def gadd (a b : GF s) : GF s := ⟨fadd s.n a.val b.val, (add_facts s.n s.h _ a.lt _ b.lt).2.1⟩
def gmul (a b : GF s) : GF s := ⟨fmul s.n a.val b.val, (mul_facts s.n s.h _ a.lt _ b.lt).2.1⟩
def gneg (a : GF s) : GF s := ⟨fneg s.n a.val, (neg_facts s.n s.h _ a.lt).1⟩
def g0 : GF s := ⟨0, by have := s.two; omega⟩
def g1 : GF s := ⟨1, by have := s.two; omega⟩
def ginv (a : GF s) : GF s := if h : a.val = 0 then g0 else ⟨finv s.n a.val, (inv_facts s.n s.h _ a.lt h).1⟩
def gnat : Nat → GF s
  | 0 => g0
  | k + 1 => gadd (gnat k) g1
def gint : Int → GF s
  | .ofNat k => gnat k
  | .negSucc k => gneg (gnat (k + 1))
def gpow (a : GF s) : Nat → GF s
  | 0 => g1
  | k + 1 => gmul (gpow a k) a
def gzpow (a : GF s) : Int → GF s
  | .ofNat k => gpow a k
  | .negSucc k => ginv (gpow a (k + 1))
instance : Add (GF s) := ⟨gadd⟩
instance : Mul (GF s) := ⟨gmul⟩
instance : Neg (GF s) := ⟨gneg⟩
instance : Sub (GF s) := ⟨fun a b => gadd a (gneg b)⟩
instance : Inv (GF s) := ⟨ginv⟩
instance : Div (GF s) := ⟨fun a b => gmul a (ginv b)⟩
theorem gadd_zero (a : GF s) : gadd a g0 = a := GF.ext' (unit_facts s.n s.h _ a.lt).2.1
theorem gadd_comm (a b : GF s) : gadd a b = gadd b a := GF.ext' (add_facts s.n s.h _ a.lt _ b.lt).2.2
theorem gadd_assoc (a b c : GF s) : gadd (gadd a b) c = gadd a (gadd b c) := GF.ext' (ring_facts s.h a.lt b.lt c.lt).1
theorem gmul_assoc (a b c : GF s) : gmul (gmul a b) c = gmul a (gmul b c) := GF.ext' (ring_facts s.h a.lt b.lt c.lt).2.1
theorem gmul_one (a : GF s) : gmul a g1 = a := GF.ext' (unit_facts s.n s.h _ a.lt).2.2.2.2.2
theorem gmul_comm (a b : GF s) : gmul a b = gmul b a := GF.ext' (mul_facts s.n s.h _ a.lt _ b.lt).2.2
theorem gdistrib (a b c : GF s) : gmul a (gadd b c) = gadd (gmul a b) (gmul a c) := GF.ext' (ring_facts s.h a.lt b.lt c.lt).2.2
theorem gzero_mul (a : GF s) : gmul g0 a = g0 := GF.ext' (unit_facts s.n s.h _ a.lt).2.2.1
theorem gneg_add (a : GF s) : gadd (gneg a) a = g0 := by
  rw [gadd_comm]
  exact GF.ext' (neg_facts s.n s.h _ a.lt).2.1
theorem gneg_neg (a : GF s) : gneg (gneg a) = a := by
  have h1 : gadd (gneg (gneg a)) (gadd (gneg a) a) = gadd (gneg (gneg a)) g0 := by rw [gneg_add]
  rw [← gadd_assoc, gneg_add, gadd_zero, gadd_comm, gadd_zero] at h1
  exact h1.symm
theorem gneg_zero : gneg (g0 : GF s) = g0 := by
  have := gneg_add (g0 : GF s)
  rwa [gadd_zero] at this
instance : Lean.Grind.Field (GF s) where
  natCast := ⟨gnat⟩
  ofNat := fun n => ⟨gnat n⟩
  nsmul := ⟨fun n a => gmul (gnat n) a⟩
  npow := ⟨gpow⟩
  add_zero := gadd_zero
  add_comm := gadd_comm
  add_assoc := gadd_assoc
  mul_assoc := gmul_assoc
  mul_one := fun a => by
    show gmul a (gadd g0 g1) = a
    rw [gadd_comm, gadd_zero, gmul_one]
  one_mul := fun a => by
    show gmul (gadd g0 g1) a = a
    rw [gadd_comm, gadd_zero, gmul_comm, gmul_one]
  left_distrib := gdistrib
  right_distrib := fun a b c => by
    show gmul (gadd a b) c = gadd (gmul a c) (gmul b c)
    rw [gmul_comm, gdistrib, gmul_comm c, gmul_comm c]
  zero_mul := gzero_mul
  mul_zero := fun a => by
    show gmul a g0 = g0
    rw [gmul_comm, gzero_mul]
  pow_zero := fun a => by
    show g1 = gadd g0 g1
    rw [gadd_comm, gadd_zero]
  pow_succ := fun a n => rfl
  ofNat_succ := fun a => by
    show gadd (gnat a) g1 = gadd (gnat a) (gadd g0 g1)
    rw [gadd_comm g0, gadd_zero]
  intCast := ⟨gint⟩
  zsmul := ⟨fun i a => gmul (gint i) a⟩
  neg_add_cancel := gneg_add
  sub_eq_add_neg := fun a b => rfl
  neg_zsmul := fun i a => by
    show gmul (gint (-i)) a = gneg (gmul (gint i) a)
    have e : ∀ b : GF s, gmul (gneg b) a = gneg (gmul b a) := fun b => by
      have h1 : gadd (gmul (gneg b) a) (gmul b a) = g0 := by
        rw [gmul_comm (gneg b), gmul_comm b, ← gdistrib, gneg_add, gmul_comm, gzero_mul]
      have h2 : gadd (gadd (gmul (gneg b) a) (gmul b a)) (gneg (gmul b a)) = gadd g0 (gneg (gmul b a)) := by rw [h1]
      rw [gadd_assoc, gadd_comm (gmul b a), gneg_add, gadd_zero, gadd_comm, gadd_zero] at h2
      exact h2
    rw [← e]
    congr 1
    cases i with
    | ofNat k =>
      cases k with
      | zero => exact gneg_zero.symm
      | succ k => rfl
    | negSucc k => exact (gneg_neg _).symm
  zsmul_natCast_eq_nsmul := fun n a => rfl
  intCast_ofNat := fun n => rfl
  intCast_neg := fun i => by
    show gint (-i) = gneg (gint i)
    cases i with
    | ofNat k =>
      cases k with
      | zero => exact gneg_zero.symm
      | succ k => rfl
    | negSucc k => exact (gneg_neg _).symm
  mul_comm := gmul_comm
  zpow := ⟨gzpow⟩
  div_eq_mul_inv := fun a b => rfl
  zero_ne_one := fun e => by
    have e' : g0 = gadd (g0 : GF s) g1 := e
    rw [gadd_comm, gadd_zero] at e'
    have := congrArg GF.val e'
    simp [g0, g1] at this
  inv_zero := by
    show ginv g0 = g0
    exact dif_pos rfl
  mul_inv_cancel := fun {a} h => by
    have h0 : a.val ≠ 0 := fun z => h (GF.ext' z)
    show gmul a (ginv a) = gadd g0 g1
    rw [gadd_comm, gadd_zero]
    unfold ginv
    rw [dif_neg h0]
    exact GF.ext' (inv_facts s.n s.h _ a.lt h0).2.1
  zpow_zero := fun a => by
    show g1 = gadd g0 g1
    rw [gadd_comm, gadd_zero]
  zpow_succ := fun a n => rfl
  zpow_neg := fun a n => by
    show gzpow a (-n) = ginv (gzpow a n)
    have i1 : ginv (g1 : GF s) = g1 := by
      have h0 : (g1 : GF s).val ≠ 0 := by simp [g1]
      have hm : gmul (g1 : GF s) (ginv g1) = g1 := by
        unfold ginv
        rw [dif_neg h0]
        exact GF.ext' (inv_facts s.n s.h _ (g1 : GF s).lt h0).2.1
      rwa [gmul_comm, gmul_one] at hm
    have i2 : ∀ b : GF s, ginv (ginv b) = b := fun b => by
      by_cases h : b.val = 0
      · have hb : b = g0 := GF.ext' h
        have hz : ginv (g0 : GF s) = g0 := by
          exact dif_pos rfl
        rw [hb, hz, hz]
      · have hm : gmul b (ginv b) = g1 := by
          unfold ginv
          rw [dif_neg h]
          exact GF.ext' (inv_facts s.n s.h _ b.lt h).2.1
        have hc : (ginv b).val ≠ 0 := fun z => by
          have hz : ginv b = g0 := GF.ext' z
          rw [hz, gmul_comm, gzero_mul] at hm
          have := congrArg GF.val hm
          simp [g0, g1] at this
        have hm2 : gmul (ginv b) (ginv (ginv b)) = g1 := by
          rw [show ginv (ginv b) = if h : (ginv b).val = 0 then g0 else ⟨finv s.n (ginv b).val, (inv_facts s.n s.h _ (ginv b).lt h).1⟩ from rfl, dif_neg hc]
          exact GF.ext' (inv_facts s.n s.h _ (ginv b).lt hc).2.1
        have := congrArg (gmul b) hm2
        rw [← gmul_assoc, hm, gmul_one, gmul_comm, gmul_one] at this
        exact this
    cases n with
    | ofNat k =>
      cases k with
      | zero => exact i1.symm
      | succ k => rfl
    | negSucc k => exact (i2 _).symm
theorem zero_val : (0 : GF s).val = 0 := rfl
theorem one_val : (1 : GF s).val = 1 := by
  show (gadd g0 g1 : GF s).val = 1
  rw [gadd_comm, gadd_zero]
  rfl
theorem val_zero {a : GF s} : a.val = 0 ↔ a = 0 := ⟨fun h => GF.ext' h, fun h => by rw [h]; rfl⟩
/-! all numbers, ascending -/
def allG (s : Sz) : List (GF s) := (List.range s.n).attach.map fun k => ⟨k.1, List.mem_range.mp k.2⟩
theorem allG_val : (allG s).map GF.val = List.range s.n := by
  unfold allG
  rw [List.map_map]
  exact (List.attach_map_subtype_val _)
theorem allG_mem (a : GF s) : a ∈ allG s := by
  unfold allG
  rw [List.mem_map]
  exact ⟨⟨a.val, List.mem_range.mpr a.lt⟩, List.mem_attach _ _, rfl⟩
theorem allG_nodup : (allG s).Nodup := by
  have h : ((allG s).map GF.val).Nodup := by
    rw [allG_val]
    exact List.nodup_range
  rw [List.Nodup, List.pairwise_map] at h
  exact h.imp fun q e => q (by rw [e])
theorem allG_len : (allG s).length = s.n := by
  have := congrArg List.length (allG_val (s := s))
  simpa using this
/-! as data -/
def gI (a : GF s) : D := nI a.val
def encW (w : List (GF s)) : D := .tuple (w.map gI)
def encL (w : List (GF s)) : D := .list (w.map gI)
theorem gI_eq (a : GF s) : gI a = .int (a.val : Nat) := rfl
theorem gI_zero : gI (0 : GF s) = .int 0 := rfl
theorem gI_one : gI (1 : GF s) = .int 1 := by
  unfold gI
  rw [one_val]
  rfl
instance : En (GF s) := ⟨gI, fun _ => rfl, 0, fun _ => rfl, fun a b => by
  refine (En.eqv a.val b.val).trans ?_
  exact decide_eq_decide.mpr ⟨GF.ext', fun e => by rw [e]⟩⟩
def vals (w : List (GF s)) : List Nat := w.map GF.val
theorem gI_vals (w : List (GF s)) : w.map gI = (vals w).map nI := by
  unfold vals
  rw [List.map_map]
  rfl
theorem vals_len (w : List (GF s)) : (vals w).length = w.length := by simp [vals]
theorem vals_lt (w : List (GF s)) : ∀ z ∈ vals w, z < s.n := fun z hz => by
  obtain ⟨a, _, rfl⟩ := List.mem_map.mp hz
  exact a.lt
theorem rowW (w : List (GF s)) : Row (encW w) (vals w) := .inr (by unfold encW; rw [gI_vals])
theorem rowL (w : List (GF s)) : Row (encL w) (vals w) := .inl (by unfold encL; rw [gI_vals])
theorem vals_getD (w : List (GF s)) (k : Nat) : (vals w).getD k 0 = (LA.ent w k).val := by
  unfold vals LA.ent
  rw [List.getD_eq_getElem?_getD, List.getD_eq_getElem?_getD, List.getElem?_map]
  cases w[k]? <;> rfl
theorem ixW {w : List (GF s)} {k : Nat} (h : k < w.length) : ixD (encW w) (.int (k : Nat)) = some (gI (LA.ent w k)) := by
  have e := (rowW w).ix (k := k) (by rw [vals_len]; exact h)
  rw [vals_getD] at e
  exact e
theorem ixLw {w : List (GF s)} {k : Nat} (h : k < w.length) : ixD (encL w) (.int (k : Nat)) = some (gI (LA.ent w k)) := by
  have e := (rowL w).ix (k := k) (by rw [vals_len]; exact h)
  rw [vals_getD] at e
  exact e
theorem lenW {w : List (GF s)} : lenD [encW w] = some (.int (w.length : Nat)) := by
  have e := (rowW w).len
  rwa [vals_len] at e
theorem lenL {w : List (GF s)} : lenD [encL w] = some (.int (w.length : Nat)) := by
  have e := (rowL w).len
  rwa [vals_len] at e
theorem walkW {w : List (GF s)} : walkA (encW w) = some (w.map gI) := rfl
theorem walkLw {w : List (GF s)} : walkA (encL w) = some (w.map gI) := rfl
theorem neG0 {a : GF s} : neD (gI a) (.int 0) = some (.bool (a != 0)) := by
  rw [gI_eq, neD_ii]
  congr 2
  rw [Bool.eq_iff_iff]
  simp [← val_zero]
theorem eqG0 {a : GF s} : eqD (gI a) (.int 0) = some (.bool (a == 0)) := by
  rw [gI_eq, eqD_ii]
  congr 2
  rw [Bool.eq_iff_iff]
  simp [← val_zero]
theorem gtG0 {a : GF s} : gtD (gI a) (.int 0) = some (.bool (a != 0)) := by
  rw [gI_eq, gtD_ii]
  congr 2
  rw [Bool.eq_iff_iff]
  simp [← val_zero]
  omega
theorem neGG {a b : GF s} : neD (gI a) (gI b) = some (.bool (a != b)) := by
  have e := neD_en (α := GF s) (Nat.zero_le _) a b
  refine e.trans ?_
  congr 2
theorem eqGG {a b : GF s} : eqD (gI a) (gI b) = some (.bool (decide (a = b))) := eqD_en (α := GF s) (Nat.zero_le _) a b
/-! methods -/
theorem inv_val {a : GF s} (h : a ≠ 0) : (a⁻¹ : GF s).val = finv s.n a.val := by
  show (ginv a).val = _
  unfold ginv
  rw [dif_neg fun z => h (val_zero.mp z)]
theorem foldl_val : ∀ (w : List (GF s)) (a : GF s), (vals w).foldl (fadd s.n) a.val = (w.foldl (· + ·) a).val
  | [], a => rfl
  | x :: w, a => foldl_val w (a + x)
def dotV (x y : List (GF s)) : GF s := ((List.range x.length).map fun k => LA.ent x k * LA.ent y k).foldl (· + ·) 0
theorem dotV_val (x y : List (GF s)) : fdot s.n (vals x) (vals y) = (dotV x y).val := by
  unfold fdot ftot dotV
  have := foldl_val ((List.range x.length).map fun k => LA.ent x k * LA.ent y k) 0
  rw [zero_val] at this
  rw [← this]
  congr 1
  unfold vals
  rw [List.map_map, List.length_map]
  refine List.map_congr_left fun k _ => ?_
  have e1 := vals_getD x k
  have e2 := vals_getD y k
  unfold vals at e1 e2
  rw [e1, e2]
  rfl
theorem dotV_W {w : Nat} {x y : List (GF s)} (h : x.length = w) : dotV x y = LA.dotW w (LA.ent x) (LA.ent y) := by
  unfold dotV LA.dotW
  rw [LA.foldl_lsum, h]
  show (0 : GF s) + _ = _
  grind
theorem law_dotG {a b : D} {x y : List (GF s)} (ha : Row a (vals x)) (hb : Row b (vals y)) (hl : x.length ≤ y.length) (hs : x.length ≤ 1000000) : f__law_dot [lawF s.n, a, b] = .ok (gI (dotV x y)) := by
  rw [law_dot_eq s.h ha hb (vals_lt x) (vals_lt y) (by rw [vals_len, vals_len]; exact hl) (by rw [vals_len]; exact hs), dotV_val]
  rfl
theorem law_negG {a : GF s} : f__law_neg [lawF s.n, gI a] = .ok (gI (-a)) := law_neg_eq s.h a.lt
/-! the law's tables -/
def addRow (a : GF s) : D := rowI s.n (fadd s.n a.val)
def mulRow (a : GF s) : D := rowI s.n (fmul s.n a.val)
def addTab (s : Sz) : D := tabN s.n (fadd s.n)
def mulTab (s : Sz) : D := tabN s.n (fmul s.n)
theorem law_0 : ixD (lawF s.n) (.int 0) = some (addTab s) := rfl
theorem law_1 : ixD (lawF s.n) (.int 1) = some (mulTab s) := rfl
theorem ix_addTab {a : GF s} : ixD (addTab s) (gI a) = some (addRow a) := ix_tab a.lt
theorem ix_mulTab {a : GF s} : ixD (mulTab s) (gI a) = some (mulRow a) := ix_tab a.lt
theorem ix_addRow {a b : GF s} : ixD (addRow a) (gI b) = some (gI (a + b)) := ix_row b.lt
theorem ix_mulRow {a b : GF s} : ixD (mulRow a) (gI b) = some (gI (a * b)) := ix_row b.lt
end
end FW

/-! RwS: what the defs of rows.py mean. -/
namespace FW
open PySem PySem.Spec L2
open PyProof.Rows hiding St
theorem obF {n : Nat} : obD "Field" fNs (fieldDs n) = fieldD n := rfl
theorem ob_plus {n : Nat} : isOb "Field" "plus" (fieldD n) = true := rfl
theorem ob_times {n : Nat} : isOb "Field" "times" (fieldD n) = true := rfl
theorem ob_negative {n : Nat} : isOb "Field" "negative" (fieldD n) = true := rfl
theorem ob_inverse {n : Nat} : isOb "Field" "inverse" (fieldD n) = true := rfl
theorem ob_total {n : Nat} : isOb "Field" "total" (fieldD n) = true := rfl
theorem ob_dot {n : Nat} : isOb "Field" "dot" (fieldD n) = true := rfl
section
variable {s : Sz}
def rowsT (R : List (List (GF s))) : D := .tuple (R.map encW)
def rowsL (R : List (List (GF s))) : D := .list (R.map encW)
theorem plainF_nil {w : Nat} : LA.plainF w ([] : List (List (GF s))) = [] := by
  have h : ∀ cs : List Nat, cs.foldl (fun st c => LA.stepC c st) (([] : List (List (GF s))), []) = ([], []) := by
    intro cs
    induction cs with
    | nil => rfl
    | cons c cs ih =>
      rw [List.foldl_cons]
      have e : LA.stepC c (([] : List (List (GF s))), []) = ([], []) := rfl
      rw [e, ih]
  unfold LA.plainF LA.plainW
  rw [h]
end
end FW

namespace FW
open PySem PySem.Spec L2
open PyProof.Rows hiding St
theorem rangeAt {n i x : Nat} (h : (List.range n)[i]? = some x) : i < n ∧ i = x := by
  obtain ⟨h1, h2⟩ := List.getElem?_eq_some_iff.mp h
  rw [List.length_range] at h1
  rw [List.getElem_range] at h2
  exact ⟨h1, h2⟩
section
variable {s : Sz}
theorem Pln_has {w : Nat} {R : List (List (GF s))} {P : List Nat} (h : LA.Pln w R P) : ∀ r ∈ R, ∃ p, p < r.length ∧ LA.ent r p ≠ 0 ∧ ∀ k < p, LA.ent r k = 0 := by
  intro r hr
  obtain ⟨i, hi, rfl⟩ := List.mem_iff_getElem.mp hr
  have hl := h.len
  have hq : R[i]? = some R[i] := List.getElem?_eq_getElem hi
  have hp : P[i]? = some (P[i]'(by omega)) := List.getElem?_eq_getElem _
  refine ⟨P[i]'(by omega), by rw [h.wid _ hr]; exact h.lt _ (List.getElem_mem _), ?_, h.pre i _ _ hq hp⟩
  rw [h.dia i i _ _ hq hp, if_pos rfl]
  exact fun z => Lean.Grind.Field.zero_ne_one z.symm
theorem lead_ix {r : List (GF s)} (h : ∃ p, p < r.length ∧ LA.ent r p ≠ 0 ∧ ∀ k < p, LA.ent r k = 0) : ixD (.list (((List.range r.length).filter fun k => LA.ent r k != 0).map nI)) (.int 0) = some (nI (LA.lead1 r)) := by
  obtain ⟨p, h1, h2, h3⟩ := h
  have e := LA.lead1_eq h1 h2 h3
  have e2 : LA.lead1 r = p := by
    unfold LA.lead1
    rw [e]
    rfl
  rw [e2]
  exact ixL_g nI (k := 0) e
theorem lenRT {R : List (List (GF s))} : lenD [rowsT R] = some (.int (R.length : Nat)) := by
  unfold rowsT
  rw [lenD_t, List.length_map]
theorem walkRT {R : List (List (GF s))} : walkA (rowsT R) = some (R.map encW) := rfl
theorem ixRT {R : List (List (GF s))} {i : Nat} (h : i < R.length) : ixD (rowsT R) (.int (i : Nat)) = some (encW (R.getD i [])) := by
  refine ixT_g encW ?_
  rw [List.getD_eq_getElem?_getD, List.getElem?_eq_getElem h]
  rfl
theorem rep_own {w : Nat} (h : w ≤ 1000) : repF (.list [.int 0]) (.int w) = some ((List.replicate w (0 : GF s)).map gI) := by
  rw [(rep_lst h).2, List.map_replicate]
  rfl
theorem set1 {row : List (GF s)} {f : Nat} (h : f < row.length) : setAtD (.own (row.map gI)) (.int (f : Nat)) (.int 1) = some (.own ((row.set f 1).map gI)) := by
  have e := setAt_g gI (row := row) (p := f) (v := 1) h
  rw [gI_one] at e
  exact e
theorem getD_at {α : Type} {l : List α} {i : Nat} {x d : α} (h : l[i]? = some x) : l.getD i d = x := by
  rw [List.getD_eq_getElem?_getD, h]
  rfl
theorem take_snoc {α : Type} {l : List α} {i : Nat} {x : α} (h : l[i]? = some x) : l.take (i + 1) = l.take i ++ [x] := by
  rw [List.take_add_one, h]
  rfl
theorem app_snoc {α : Type} (enc : α → D) {l : List α} {i : Nat} {x : α} (h : l[i]? = some x) (hs : l.length ≤ 1000) : appD ((l.take i).map enc) [enc x] = some (.none, (l.take (i + 1)).map enc) := by
  rw [take_snoc h]
  exact app_map enc (by rw [List.length_take]; omega)
end
end FW

namespace FW
open PySem PySem.Spec L2
open PyProof.Rows hiding St
section
variable {s : Sz}
theorem LsK_mul {a : GF s} {P : List D → Prop} : LsK (mulRow a) P = P ((List.range s.n).map fun c => .int (fmul s.n a.val c : Nat)) := LsK_l
theorem invIdx {a : GF s} (h : a ≠ 0) : idxD (.list ((List.range s.n).map fun c => .int (fmul s.n a.val c : Nat))) (.int 1) = some (gI a⁻¹) := by
  obtain ⟨h1, h2, h3⟩ := inv_facts s.n s.h a.val a.lt (fun z => h (val_zero.mp z))
  have e := idx_first (v := 1) h1 h2 h3
  rw [← inv_val h] at e
  exact e
theorem encL_tup {r : List (GF s)} : tupleD [encL r] = some (encW r) := rfl
theorem law_plain_eq {d : D} {w : Nat} {R : List (List (GF s))} (enc : List (GF s) → D) (henc : ∀ r, listD [enc r] = some (r.map gI)) (hd : walkA d = some (R.map enc)) (hw : ∀ r ∈ R, r.length = w) (hs : R.length ≤ 1000) (hs2 : w ≤ 1000) : f__law_plain [lawF s.n, d] = .ok (rowsT (LA.plainF w R)) := by
  refine RsK.eq (R_run2 ?_)
  show Wp b__law_plain [.dat (lawF s.n), .dat d, .un, .un, .un, .un, .un, .un, .un, .un, .un, .un] _
  unfold b__law_plain
  simp only [↓kPre, kPost]
  refine E_mapG enc R encL ?_ (by simp) (by first | rfl | (simp [plainAt, plain_gv]; done) | (simp [plainAt, plain_gv, plainSlot]; done)) (by omega) (fun r hr => ?_) ?_
  · simp only [↓kPre, kPost, hd, and_self]
  · simp only [↓kPre, kPost, henc, encL, and_self]
  simp only [↓kPre, kPost]
  have main : ∀ (w' : Nat) (Q : Out → Prop), (∀ r ∈ R, r.length = w') → LA.plainF w' R = LA.plainF w R → w' ≤ 1000 → (∀ (L : List D) (g : Option D × Option D × Option D × Option D), Q (.nx [.dat (lawF s.n), .dat d, .own L, .dat (.list ((LA.plainF w R).map encL)), gv g.1, gv g.2.1, gv g.2.2.1, gv g.2.2.2, .un, .un, .un, .un])) →
      WpK (fun S => forL (gN 4) (sSeq (sDat 5 (eComp [9] (iR1 (aCons (eBO lenD 2) (aNil))) (gN 9) (bOf (eBin neD (eIx (eIxO 2 (eV 9)) (eV 4)) (eC (.int 0)))) (eV 9))) (sSeq (sIf (bOf (eBin gtD (eB lenD (aCons (eV 5) (aNil))) (eC (.int 0)))) (sSeq (sSet 6 (eMut 2 popAtD (aCons (eIx (eV 5) (eC (.int 0))) (aNil)))) (sSeq (sSet 7 (eIdx (eIx (eIx (eV 0) (eC (.int 1))) (eIx (eV 6) (eV 4))) (eC (.int 1)))) (sSeq (sSet 6 (eFz (eComp [10] (iA (eV 6)) (gN 10) (bYes) (eIx (eIx (eIx (eV 0) (eC (.int 1))) (eV 7)) (eV 10))))) (sSeq (sOwn 2 (eComp [8] (iA (eV 2)) (gN 8) (bYes) (eFz (eComp [11] (iR1 (aCons (eB lenD (aCons (eV 8) (aNil))) (aNil))) (gN 11) (bYes) (eIx (eIx (eIx (eV 0) (eC (.int 0))) (eIx (eV 8) (eV 11))) (eIx (eIx (eIx (eV 0) (eC (.int 1))) (eCall 2 (f__law_neg) (aCons (eV 0) (aCons (eIx (eV 8) (eV 4)) (aNil))))) (eIx (eV 6) (eV 11)))))))) (sSeq (sSet 3 (eBin addD (eFz (eComp [8] (iA (eV 3)) (gN 8) (bYes) (eFz (eComp [11] (iR1 (aCons (eB lenD (aCons (eV 8) (aNil))) (aNil))) (gN 11) (bYes) (eIx (eIx (eIx (eV 0) (eC (.int 0))) (eIx (eV 8) (eV 11))) (eIx (eIx (eIx (eV 0) (eC (.int 1))) (eCall 2 (f__law_neg) (aCons (eV 0) (aCons (eIx (eV 8) (eV 4)) (aNil))))) (eIx (eV 6) (eV 11)))))))) (eLst (aCons (eV 6) (aNil))))) (sNx)))))) (sNx)) (sNx))) ((List.range w').map nI) S) [.dat (lawF s.n), .dat d, .own (R.map encL), .dat (.list []), .un, .un, .un, .un, .un, .un, .un, .un] Q := by
    intro w' Q hw' he hs3 q
    refine W_forE nI (st := fun (st : List (List (GF s)) × List (List (GF s))) (c : Option D × Option D × Option D × Option D) => [.dat (lawF s.n), .dat d, .own (st.1.map encL), .dat (.list (st.2.map encL)), gv c.1, gv c.2.1, gv c.2.2.1, gv c.2.2.2, .un, .un, .un, .un]) (step := fun st c => LA.stepC c st) (I := fun i st => LA.PInv w' R i st) (R, []) (none, none, none, none) (LA.plainW_inv hw' 0 (by omega)) (fun i c hc st g I => ?_) (fun g I => ?_)
    · obtain ⟨hi, rfl⟩ := rangeAt hc
      refine ⟨LA.stepC_ok hi I, _, rfl, ?_⟩
      obtain ⟨P, hP, _⟩ := I.pl
      have hcnt := I.cnt
      have hix : ∀ k < st.1.length, ixD (.list (st.1.map encL)) (.int (k : Nat)) = some (encL (st.1.getD k [])) := fun k hk => by
        rw [List.getD_eq_getElem?_getD, List.getElem?_eq_getElem hk]
        exact ixL_g encL (List.getElem?_eq_getElem hk)
      have hwd : ∀ k < st.1.length, (st.1.getD k []).length = w' := fun k hk => by
        rw [List.getD_eq_getElem?_getD, List.getElem?_eq_getElem hk]
        exact I.wid _ (List.getElem_mem hk)
      simp only [↓kPre, kPost, nI_eq]
      refine E_selG nI (List.range st.1.length) (fun k => LA.ent (st.1.getD k []) i != 0) nI ?_ (by simp) (by first | rfl | (simp [plainAt, plain_gv]; done) | (simp [plainAt, plain_gv, plainSlot]; done)) (by simp; omega) (fun k hk => ?_) (fun k hk _ => ?_) ?_
      · simp only [↓kPre, kPost, rng1_ok (n := st.1.length) (by omega), list_range, and_self]
      · have hk := List.mem_range.mp hk
        simp only [↓kPre, kPost, nI_eq, hix k hk, ixLw (show i < (st.1.getD k []).length by rw [hwd k hk]; exact hi), neG0, and_self]
      · simp only [↓kPre, kPost, and_self]
      simp only [↓kPre, kPost]
      cases e : (List.range st.1.length).filter fun k => LA.ent (st.1.getD k []) i != 0 with
      | nil =>
        have hs' : LA.stepC i st = st := by
          unfold LA.stepC
          rw [e]
        rw [hs']
        have hd0 : decide ((0 : Int) < ((([] : List Nat).length : Nat) : Int)) = false := rfl
        simp only [↓kPre, kPost, hd0]
        exact ⟨(some _, some _, _, _), .inl rfl⟩
      | cons j js =>
        have hjm : j ∈ (List.range st.1.length).filter fun k => LA.ent (st.1.getD k []) i != 0 := by rw [e]; exact List.mem_cons_self
        obtain ⟨hj, hne⟩ := List.mem_filter.mp hjm
        have hj := List.mem_range.mp hj
        have hjg : st.1[j]? = some (st.1.getD j []) := by rw [List.getD_eq_getElem?_getD, List.getElem?_eq_getElem hj]; rfl
        have hs' : LA.stepC i st = ((st.1.eraseIdx j).map fun r => LA.addR r (LA.sclR (LA.ent (st.1.getD j []) i)⁻¹ (st.1.getD j [])) (-(LA.ent r i)), (st.2.map fun r => LA.addR r (LA.sclR (LA.ent (st.1.getD j []) i)⁻¹ (st.1.getD j [])) (-(LA.ent r i))) ++ [LA.sclR (LA.ent (st.1.getD j []) i)⁻¹ (st.1.getD j [])]) := by
          unfold LA.stepC
          rw [e]
        rw [hs']
        have hlw := hwd j hj
        generalize hl : st.1.getD j [] = l at hne hlw hjg ⊢
        have hne : LA.ent l i ≠ 0 := by simpa using hne
        have hd0 : decide ((0 : Int) < (((j :: js).length : Nat) : Int)) = true := by simp
        have hi0 : ixD (.list ((j :: js).map nI)) (.int 0) = some (.int (j : Nat)) := ixL_g nI (k := 0) rfl
        have hsl : (LA.sclR (LA.ent l i)⁻¹ l).length = w' := by rw [LA.len_scl, hlw]
        simp only [↓kPre, kPost, hd0, hi0, pop_g encL hjg (by omega), ixLw (show i < l.length by omega), law_1, ix_mulTab, LsK_mul, invIdx hne]
        refine E_mapG gI l (fun x => gI ((LA.ent l i)⁻¹ * x)) ?_ (by simp) (by first | rfl | (simp [plainAt, plain_gv]; done) | (simp [plainAt, plain_gv, plainSlot]; done)) (by omega) (fun x hx => ?_) ?_
        · simp only [↓kPre, kPost, walkLw, and_self]
        · simp only [↓kPre, kPost, law_1, ix_mulTab, ix_mulRow, and_self]
        have hsc : PyData.list (l.map fun x => gI ((LA.ent l i)⁻¹ * x)) = encL (LA.sclR (LA.ent l i)⁻¹ l) := by
          unfold encL LA.sclR
          rw [List.map_map]
          rfl
        simp only [↓kPre, kPost, hsc]
        generalize LA.sclR (LA.ent l i)⁻¹ l = l' at hsl ⊢
        have hle : ∀ r ∈ st.1.eraseIdx j, r.length = w' := fun r hr => I.wid r (List.mem_of_mem_eraseIdx hr)
        have hadd : ∀ r : List (GF s), PyData.list ((List.range r.length).map fun k => gI (LA.ent r k + -(LA.ent r i) * LA.ent l' k)) = encL (LA.addR r l' (-(LA.ent r i))) := fun r => by
          unfold encL LA.addR
          rw [List.map_map]
          rfl
        refine E_mapS encL [.dat (lawF s.n), .dat d, .dat (.list ((st.1.eraseIdx j).map encL)), .dat (.list (st.2.map encL)), .dat (.int i), .dat (.list ((j :: js).map nI)), .dat (encL l'), .dat (gI (LA.ent l i)⁻¹), .un, .un, .un, .un] (st.1.eraseIdx j) (fun r => encL (LA.addR r l' (-(LA.ent r i)))) ?_ (by simp) (by first | rfl | (simp [plainAt, plain_gv]; done) | (simp [plainAt, plain_gv, plainSlot]; done)) (by have := List.length_eraseIdx_le st.1 j; omega) (fun r hr => ?_) ?_
        · simp only [↓kPre, kPost, walk_l, and_self]
        · have hr1 := hle r hr
          simp only [↓kPre, kPost]
          refine E_mapG nI (List.range r.length) (fun k => gI (LA.ent r k + -(LA.ent r i) * LA.ent l' k)) ?_ (by simp) (by first | rfl | (simp [plainAt, plain_gv]; done) | (simp [plainAt, plain_gv, plainSlot]; done)) (by simp; omega) (fun k hk => ?_) ?_
          · simp only [↓kPre, kPost, lenL, rng1_ok (n := r.length) (by omega), list_range, and_self]
          · have hk := List.mem_range.mp hk
            simp only [↓kPre, kPost, nI_eq, law_0, law_1, ixLw hk, ixLw (show i < r.length by omega), ixLw (show k < l'.length by omega), law_negG, ix_addTab, ix_mulTab, ix_mulRow, ix_addRow, and_self]
          · simp only [↓kPre, kPost, hadd, and_self]
        simp only [↓kPre, kPost]
        refine E_mapG encL st.2 (fun r => encL (LA.addR r l' (-(LA.ent r i)))) ?_ (by simp) (by first | rfl | (simp [plainAt, plain_gv]; done) | (simp [plainAt, plain_gv, plainSlot]; done)) (by omega) (fun r hr => ?_) ?_
        · simp only [↓kPre, kPost, walk_l, and_self]
        · have hr1 := hP.wid r hr
          simp only [↓kPre, kPost]
          refine E_mapG nI (List.range r.length) (fun k => gI (LA.ent r k + -(LA.ent r i) * LA.ent l' k)) ?_ (by simp) (by first | rfl | (simp [plainAt, plain_gv]; done) | (simp [plainAt, plain_gv, plainSlot]; done)) (by simp; omega) (fun k hk => ?_) ?_
          · simp only [↓kPre, kPost, lenL, rng1_ok (n := r.length) (by omega), list_range, and_self]
          · have hk := List.mem_range.mp hk
            simp only [↓kPre, kPost, nI_eq, law_0, law_1, ixLw hk, ixLw (show i < r.length by omega), ixLw (show k < l'.length by omega), law_negG, ix_addTab, ix_mulTab, ix_mulRow, ix_addRow, and_self]
          · simp only [↓kPre, kPost, hadd, and_self]
        simp only [↓kPre, kPost, addL (xs := st.2.map fun r => encL (LA.addR r l' (-(LA.ent r i)))) (ys := [encL l']) (by simp; omega)]
        refine ⟨(some (.int i), some (.list ((j :: js).map nI)), some (encL l'), some (gI (LA.ent l i)⁻¹)), .inl ?_⟩
        simp only [List.map_map, List.map_append, List.map_cons, List.map_nil]
        rfl
    · have e : (List.range w').foldl (fun st c => LA.stepC c st) (R, []) = LA.plainW w' R := rfl
      have e2 : (LA.plainW w' R).2 = LA.plainF w R := he
      rw [e]
      show Q (.nx [_, _, _, .dat (.list ((LA.plainW w' R).2.map encL)), _, _, _, _, _, _, _, _])
      rw [e2]
      exact q _ g
  have fin : ∀ (L : List D) (g : Option D × Option D × Option D × Option D), Ep (eComp [8] (iA (eV 3)) (gN 8) bYes (eB tupleD (aCons (eV 8) aNil))) [.dat (lawF s.n), .dat d, .own L, .dat (.list ((LA.plainF w R).map encL)), gv g.1, gv g.2.1, gv g.2.2.1, gv g.2.2.2, .un, .un, .un, .un] fun r S1 => r = (LA.plainF w R).map encW ∧ S1 = [.dat (lawF s.n), .dat d, .own L, .dat (.list ((LA.plainF w R).map encL)), gv g.1, gv g.2.1, gv g.2.2.1, gv g.2.2.2, .un, .un, .un, .un] := by
    intro L g
    refine E_mapG encL (LA.plainF w R) encW ?_ (by simp) (by first | rfl | (simp [plainAt, plain_gv]; done) | (simp [plainAt, plain_gv, plainSlot]; done)) (by have := (LA.plainF_ok hw).2.2; omega) (fun r hr => ?_) ⟨rfl, rfl⟩
    · simp only [↓kPre, kPost, walk_l, and_self]
    · simp only [↓kPre, kPost, encL_tup, and_self]
  cases R with
  | nil =>
    have hd0 : decide ((0 : Int) < ((([] : List (List (GF s))).length : Nat) : Int)) = false := rfl
    simp only [↓kPre, kPost, hd0]
    rw [show rng1 [.int 0] = some ((List.range 0).map nI) from rng1_ok (n := 0) (by decide)]
    simp only [↓kPre, kPost]
    refine main 0 _ (fun r hr => by simp at hr) (by rw [plainF_nil, plainF_nil]) (by omega) fun L g => ?_
    simp only [↓kPre, kPost]
    refine Ep_val _ (fin L g) ?_
    simp only [↓kPre, kPost, tupleD_l]
    rfl
  | cons r R =>
    have hd0 : decide ((0 : Int) < (((r :: R).length : Nat) : Int)) = true := by simp
    have hi0 : ixD (.list ((r :: R).map encL)) (.int 0) = some (encL r) := ixL_g encL (k := 0) rfl
    have hrw := hw r List.mem_cons_self
    simp only [↓kPre, kPost, hd0, hi0, lenL, hrw, rng1_ok (n := w) (by omega), list_range]
    refine main w _ hw rfl hs2 fun L g => ?_
    simp only [↓kPre, kPost]
    refine Ep_val _ (fin L g) ?_
    simp only [↓kPre, kPost, tupleD_l]
    rfl
end
end FW

namespace FW
open PySem PySem.Spec L2
open PyProof.Rows hiding St
section
variable {s : Sz}
/-! ### sums of rows -/
theorem mixW_nil {w : Nat} {m : List (GF s)} : LA.mixW w [] m = List.replicate w 0 := by
  apply List.ext_getElem (by simp [LA.mixW])
  intro i h1 h2
  simp [LA.mixW, LA.comb]
theorem comb_snoc {R : List (List (GF s))} {m : List (GF s)} {r : List (GF s)} {x : GF s} (h : m.length = R.length) (k : Nat) : LA.comb (R ++ [r]) (m ++ [x]) k = LA.comb R m k + x * LA.ent r k := by
  rw [LA.comb_append R [r] m [x] k h]
  show _ + (x * LA.ent r k + 0) = _
  grind
theorem mix_step {w : Nat} {R : List (List (GF s))} {m : List (GF s)} (hR : ∀ r ∈ R, r.length = w) (hm : m.length = R.length) {i : Nat} (hi : i < R.length) :
    (List.range w).map (fun j => LA.ent (LA.mixW w (R.take i) (m.take i)) j + LA.ent m i * LA.ent (R.getD i []) j) = LA.mixW w (R.take (i + 1)) (m.take (i + 1)) := by
  have e1 : R[i]? = some (R.getD i []) := by rw [List.getD_eq_getElem?_getD, List.getElem?_eq_getElem hi]; rfl
  have e2 : m[i]? = some (LA.ent m i) := by
    unfold LA.ent
    rw [List.getD_eq_getElem?_getD, List.getElem?_eq_getElem (by omega)]
    rfl
  rw [take_snoc e1, take_snoc e2]
  unfold LA.mixW
  refine List.map_congr_left fun j hj => ?_
  have hj := List.mem_range.mp hj
  rw [comb_snoc (by rw [List.length_take, List.length_take]; omega), LA.ent_range hj]
theorem mix_full {w : Nat} {R : List (List (GF s))} {m : List (GF s)} (hm : m.length = R.length) : LA.mixW w (R.take R.length) (m.take R.length) = LA.mixW w R m := by
  rw [List.take_length, ← hm, List.take_length]
theorem law_mix_eq {d : D} {w : Nat} {R : List (List (GF s))} {m : List (GF s)} (hl : lenD [d] = some (.int (R.length : Nat))) (hx : ∀ i < R.length, ixD d (.int (i : Nat)) = some (encW (R.getD i []))) (hR : ∀ r ∈ R, r.length = w) (hm : m.length = R.length) (hs : R.length ≤ 1000) (hs2 : w ≤ 1000) :
    f__law_mix [lawF s.n, d, encW m, .int w] = .ok (encW (LA.mixW w R m)) := by
  refine RsK.eq (R_run2 ?_)
  show Wp b__law_mix [.dat (lawF s.n), .dat d, .dat (encW m), .dat (.int w), .un, .un, .un] _
  unfold b__law_mix
  have e0 : mulD (.list [.int 0]) (.int w) = some (encL (LA.mixW w (R.take 0) (m.take 0))) := by
    rw [(rep_lst hs2).1, List.take_zero, mixW_nil]
    unfold encL
    rw [List.map_replicate]
    rfl
  simp only [↓kPre, kPost, e0, hl, rng1_ok (n := R.length) (by omega), list_range]
  refine W_forN R.length (st := fun i (c : Option D) => [.dat (lawF s.n), .dat d, .dat (encW m), .dat (.int w), .dat (encL (LA.mixW w (R.take i) (m.take i))), gv c, .un]) none (fun i hi c => ?_) (fun c => ?_)
  · refine ⟨_, rfl, ?_⟩
    have hlen : (R.getD i []).length = w := by
      rw [List.getD_eq_getElem?_getD, List.getElem?_eq_getElem hi]
      exact hR _ (List.getElem_mem hi)
    simp only [↓kPre, kPost]
    refine E_mapG nI (List.range w) (fun j => gI (LA.ent (LA.mixW w (R.take i) (m.take i)) j + LA.ent m i * LA.ent (R.getD i []) j)) ?_ (by simp) (by first | rfl | (simp [plainAt, plain_gv]; done) | (simp [plainAt, plain_gv, plainSlot]; done)) (by simp; omega) (fun j hj => ?_) ?_
    · simp only [↓kPre, kPost, rng1_ok (n := w) (by omega), list_range, and_self]
    · have hj := List.mem_range.mp hj
      simp only [↓kPre, kPost, nI_eq, law_0, law_1, hx i hi, ixW (show i < m.length by omega), ixLw (show j < (LA.mixW w (R.take i) (m.take i)).length by rw [LA.mixW_len]; exact hj), ixW (show j < (R.getD i []).length by rw [hlen]; exact hj), ix_addTab, ix_mulTab, ix_mulRow, ix_addRow, and_self]
    have e : PyData.list ((List.range w).map fun j => gI (LA.ent (LA.mixW w (R.take i) (m.take i)) j + LA.ent m i * LA.ent (R.getD i []) j)) = encL (LA.mixW w (R.take (i + 1)) (m.take (i + 1))) := by
      rw [← mix_step hR hm hi]
      unfold encL
      rw [List.map_map]
      rfl
    simp only [↓kPre, kPost, e]
    exact ⟨some _, .inl rfl⟩
  · simp only [↓kPre, kPost, mix_full hm, encL_tup]
/-! ### all words -/
theorem allG_nI : (List.range s.n).map nI = (allG s).map gI := by
  rw [← allG_val, List.map_map]
  rfl
theorem pow_le {b k m : Nat} (hb : 1 ≤ b) (h : k ≤ m) : b ^ k ≤ b ^ m := Nat.pow_le_pow_right hb h
theorem tup_snoc {w : List (GF s)} {x : GF s} (h : w.length ≤ 1000) : addD (encW w) (.tuple [gI x]) = some (encW (w ++ [x])) := by
  have e := addTu (xs := w.map gI) (ys := [gI x]) (by simp; omega)
  refine e.trans ?_
  unfold encW
  rw [List.map_append]
  rfl
theorem flat_snoc {α : Type} (f : List (GF s) → GF s → α) (l : List (List (GF s))) : (l.flatMap fun w => ((allG s).filter fun _ => true).map (f w)) = l.flatMap fun w => (allG s).map (f w) := by
  congr 1
  funext w
  rw [List.filter_eq_self.mpr fun _ _ => rfl]
theorem allW_succ {k : Nat} : (LA.allW (allG s) (k + 1)).map encW = (LA.allW (allG s) k).flatMap fun w => (allG s).map fun x => encW (w ++ [x]) := by
  rw [LA.allW, List.map_flatMap]
  congr 1
  funext w
  rw [List.map_map]
  rfl
theorem law_words_eq {k : Nat} (h : s.n ^ k ≤ 100000) (hk : k ≤ 1000) : f__law_words [.int s.n, .int k] = .ok (.list ((LA.allW (allG s) k).map encW)) := by
  refine RsK.eq (R_run2 ?_)
  show Wp b__law_words [.dat (.int s.n), .dat (.int k), .un, .un, .un, .un, .un] _
  unfold b__law_words
  have h2 := s.two
  have h16 := (size_facts s.n s.h).2
  simp only [↓kPre, kPost, rng1_ok (n := k) (by omega), list_range]
  refine W_forN k (st := fun i (c : Option D × Option D × Option D) => [.dat (.int s.n), .dat (.int k), .dat (.list ((LA.allW (allG s) i).map encW)), gv c.1, gv c.2.1, gv c.2.2, .un]) (none, none, none) (fun i hi c => ?_) (fun c => ?_)
  · refine ⟨_, rfl, ?_⟩
    have hw : ∀ w ∈ LA.allW (allG s) i, w.length = i := fun w hw => (LA.allW_mem allG_mem).mp hw
    have hlen : (LA.allW (allG s) (i + 1)).length ≤ 100000 := by
      rw [LA.allW_len, allG_len]
      exact Nat.le_trans (pow_le (by omega) hi) h
    simp only [↓kPre, kPost, walk_l]
    refine W_forX encW (LA.allW (allG s) i) (st := fun j (c' : Option D) => [.dat (.int s.n), .dat (.int k), .dat (.list ((LA.allW (allG s) i).map encW)), .dat (nI i), .dat (.list (((LA.allW (allG s) i).take j).flatMap fun w => (allG s).map fun x => encW (w ++ [x]))), gv c', .un]) c.2.2 (fun j w hj c' => ?_) (fun c' => ?_)
    · refine ⟨_, rfl, ?_⟩
      have hw1 := hw w (List.mem_of_getElem? hj)
      simp only [↓kPre, kPost]
      refine E_mapG gI (allG s) (fun x => encW (w ++ [x])) ?_ (by simp) (by first | rfl | (simp [plainAt, plain_gv]; done) | (simp [plainAt, plain_gv, plainSlot]; done)) (by rw [allG_len]; omega) (fun x _ => ?_) ?_
      · simp only [↓kPre, kPost, rng1_ok (n := s.n) (by omega), list_range, allG_nI, and_self]
      · simp only [↓kPre, kPost, tup_snoc (show w.length ≤ 1000 by omega), and_self]
      have hl2 : (((LA.allW (allG s) i).take j).flatMap fun w => (allG s).map fun x => encW (w ++ [x])).length + ((allG s).map fun x => encW (w ++ [x])).length ≤ 1000000 := by
        have e : (((LA.allW (allG s) i).take j).flatMap fun w => (allG s).map fun x => encW (w ++ [x])).length = (List.take j (LA.allW (allG s) i)).length * s.n := by
          rw [List.length_flatMap]
          simp only [List.length_map, allG_len]
          rw [List.map_const', List.sum_replicate_nat]
        have e2 : (LA.allW (allG s) (i + 1)).length = (LA.allW (allG s) i).length * s.n := by
          rw [LA.allW_len, LA.allW_len, allG_len, Nat.pow_succ]
        have e3 : (List.take j (LA.allW (allG s) i)).length ≤ (LA.allW (allG s) i).length := by rw [List.length_take]; omega
        have e4 := Nat.mul_le_mul_right s.n e3
        rw [e, List.length_map, allG_len]
        omega
      have e5 : (((LA.allW (allG s) i).take j).flatMap fun w => (allG s).map fun x => encW (w ++ [x])) ++ ((allG s).map fun x => encW (w ++ [x])) = (((LA.allW (allG s) i).take (j + 1)).flatMap fun w => (allG s).map fun x => encW (w ++ [x])) := by
        rw [take_snoc hj, List.flatMap_append]
        simp only [List.flatMap_cons, List.flatMap_nil, List.append_nil]
      simp only [↓kPre, kPost, addL hl2, e5]
      exact ⟨some _, .inl rfl⟩
    · simp only [↓kPre, kPost, List.take_length, ← allW_succ]
      exact ⟨(some _, some _, _), .inl rfl⟩
  · simp only [↓kPre, kPost]
/-! ### codes as data -/
def codeD (s : Sz) (w : Nat) (R : List (List (GF s))) : D := .tuple [.str "code", .int s.n, .int w, rowsT R]
theorem code_0 {w : Nat} {R : List (List (GF s))} : ixD (codeD s w R) (.int 0) = some (.str "code") := rfl
theorem code_1 {w : Nat} {R : List (List (GF s))} : ixD (codeD s w R) (.int 1) = some (.int s.n) := rfl
theorem code_2 {w : Nat} {R : List (List (GF s))} : ixD (codeD s w R) (.int 2) = some (.int w) := rfl
theorem code_3 {w : Nat} {R : List (List (GF s))} : ixD (codeD s w R) (.int 3) = some (rowsT R) := rfl
theorem law_all_eq {w : Nat} {R : List (List (GF s))} (hR : ∀ r ∈ R, r.length = w) (h : s.n ^ R.length ≤ 100000) (hs : R.length ≤ 1000) (hs2 : w ≤ 1000) : f__law_all [lawF s.n, codeD s w R] = .ok (.list ((LA.wordsW (allG s) w R).map encW)) := by
  refine RsK.eq (R_run2 ?_)
  show Wp b__law_all [.dat (lawF s.n), .dat (codeD s w R), .un] _
  unfold b__law_all
  simp only [↓kPre, kPost]
  refine E_mapG encW (LA.allW (allG s) R.length) (fun m => encW (LA.mixW w R m)) ?_ (by simp) (by first | rfl | (simp [plainAt, plain_gv]; done) | (simp [plainAt, plain_gv, plainSlot]; done)) (by rw [LA.allW_len, allG_len]; omega) (fun m hm => ?_) ?_
  · simp only [↓kPre, kPost, code_1, code_3, lenRT, law_words_eq h hs, walk_l, and_self]
  · have hm := (LA.allW_mem allG_mem).mp hm
    simp only [↓kPre, kPost, code_2, code_3, law_mix_eq lenRT (fun i hi => ixRT hi) hR hm hs hs2, and_self]
  · unfold LA.wordsW
    rw [List.map_map]
    rfl
end
end FW

/-! Q12a: the numbers of the bounds. -/
namespace FW
open PySem PySem.Spec L2
open PyProof.Rows hiding St
theorem nl_ix {w : List Nat} {k : Nat} (h : k < w.length) : ixD (.list (w.map nI)) (.int (k : Nat)) = some (.int (w.getD k 0 : Nat)) := by
  refine ixL_g nI ?_
  rw [List.getD_eq_getElem?_getD, List.getElem?_eq_getElem h]
  rfl
theorem mul_nn {a b : Nat} (h : a < 2 ^ 60 ∨ b < 2 ^ 60) : mulD (.int (a : Nat)) (.int (b : Nat)) = some (.int (a * b : Nat)) := by
  rw [mulD_ii (by omega), Int.natCast_mul]
theorem fdiv_nn {a b : Nat} (h : 0 < b) (h2 : b < 2 ^ 190) : fdivD (.int (a : Nat)) (.int (b : Nat)) = some (.int (a / b : Nat)) := by
  rw [fdivD_ii (by omega) (by omega), Int.natCast_ediv]
theorem sub_nn {a b : Nat} (h : b ≤ a) : subD (.int (a : Nat)) (.int (b : Nat)) = some (.int (a - b : Nat)) := by
  rw [subD_ii]
  congr 2
  omega
theorem sub_n1 {a : Nat} (h : 1 ≤ a) : subD (.int (a : Nat)) (.int 1) = some (.int (a - 1 : Nat)) := by
  rw [subD_ii]
  congr 2
  omega
theorem add_n1 {a : Nat} : addD (.int (a : Nat)) (.int 1) = some (.int (a + 1 : Nat)) := by
  rw [addD_ii]
  rfl
theorem add_nn {a b : Nat} : addD (.int (a : Nat)) (.int (b : Nat)) = some (.int (a + b : Nat)) := by
  rw [addD_ii]
  rfl
theorem dec_nn {a b : Nat} : decide ((a : Int) ≤ (b : Nat)) = decide (a ≤ b) := by
  rw [decide_eq_decide]
  omega
theorem powN_eq {b k : Nat} (hb : b < 2 ^ 50) (hk : k < 1000) : f_power [.int b, .int k] = .ok (.int (b ^ k : Nat)) := by
  refine RsK.eq (R_run2 ?_)
  show Wp b_power [.dat (.int b), .dat (.int k), .un, .un] _
  unfold b_power
  simp only [↓kPre, kPost, rng1_ok (n := k) (by omega), list_range]
  refine W_forN k (st := fun i (c : Option D) => [.dat (.int b), .dat (.int k), .dat (.int (b ^ i : Nat)), gv c]) none (fun i hi c => ?_) (fun c => ?_)
  · refine ⟨_, rfl, ?_⟩
    have e : mulD (.int (b ^ i : Nat)) (.int b) = some (.int (b ^ (i + 1) : Nat)) := by rw [mul_nn (.inr (by omega)), Nat.pow_succ]
    simp only [↓kPre, kPost, e]
    exact ⟨some _, .inl rfl⟩
  · simp only [↓kPre, kPost]
theorem lpow_eq {b k : Nat} (hb : b < 2 ^ 50) (hk : k < 1000) : f__law_power [.int b, .int k] = .ok (.int (b ^ k : Nat)) := by
  refine RsK.eq (R_run2 ?_)
  show Wp b__law_power [.dat (.int b), .dat (.int k), .un, .un] _
  unfold b__law_power
  simp only [↓kPre, kPost, rng1_ok (n := k) (by omega), list_range]
  refine W_forN k (st := fun i (c : Option D) => [.dat (.int b), .dat (.int k), .dat (.int (b ^ i : Nat)), gv c]) none (fun i hi c => ?_) (fun c => ?_)
  · refine ⟨_, rfl, ?_⟩
    have e : mulD (.int (b ^ i : Nat)) (.int b) = some (.int (b ^ (i + 1) : Nat)) := by rw [mul_nn (.inr (by omega)), Nat.pow_succ]
    simp only [↓kPre, kPost, e]
    exact ⟨some _, .inl rfl⟩
  · simp only [↓kPre, kPost]
def chF (m : Nat) : Nat → Nat
  | 0 => 1
  | k + 1 => chF m k * (m - k) / (k + 1)
def pasc : Nat → List Nat
  | 0 => [1]
  | m + 1 => [1] ++ (List.range ((pasc m).length - 1)).map (fun k => (pasc m).getD k 0 + (pasc m).getD (k + 1) 0) ++ [1]
theorem bin_facts : ∀ m < 13, ∀ k < 13, (m < k → LA.bin m k = 0) ∧ (k ≤ m → chF m k = LA.bin m k ∧ (pasc m).getD k 0 = LA.bin m k) ∧ LA.bin m k < 1000 := by decide +kernel
theorem pasc_len : ∀ m, (pasc m).length = m + 1
  | 0 => rfl
  | m + 1 => by
    rw [pasc]
    simp [pasc_len m]
theorem chN_eq {m k : Nat} (hm : m ≤ 12) (hk : k ≤ 12) : f_choose [.int m, .int k] = .ok (.int (LA.bin m k : Nat)) := by
  refine RsK.eq (R_run2 ?_)
  show Wp b_choose [.dat (.int m), .dat (.int k), .un, .un] _
  unfold b_choose
  obtain ⟨f1, f2, f3⟩ := bin_facts m (by omega) k (by omega)
  by_cases h : k ≤ m
  · simp only [↓kPre, kPost, rng1_ok (n := k) (by omega), list_range]
    refine W_forN k (st := fun i (c : Option D) => [.dat (.int m), .dat (.int k), .dat (.int (chF m i : Nat)), gv c]) none (fun i hi c => ?_) (fun c => ?_)
    · refine ⟨_, rfl, ?_⟩
      have em : (m : Int) - (i : Nat) = ((m - i : Nat) : Int) := by omega
      have ei : ((i : Nat) : Int) + 1 = ((i + 1 : Nat) : Int) := rfl
      have ec : chF m i * (m - i) / (i + 1) = chF m (i + 1) := rfl
      simp only [↓kPre, kPost, nI_eq, em, ei, mul_nn (a := chF m i) (b := m - i) (.inr (by omega)), fdiv_nn (a := chF m i * (m - i)) (b := i + 1) (by omega) (by omega), ec]
      exact ⟨some _, .inl rfl⟩
    · have e : decide ((k : Int) ≤ (m : Nat)) = true := by
        apply decide_eq_true
        omega
      simp only [↓kPre, kPost, e, (f2 h).1]
  · simp only [↓kPre, kPost, rng1_ok (n := k) (by omega), list_range]
    refine W_forN k (st := fun i (c : Option D × Int) => [.dat (.int m), .dat (.int k), .dat (.int c.2), gv c.1]) (none, 1) (fun i hi c => ?_) (fun c => ?_)
    · refine ⟨_, rfl, ?_⟩
      simp only [↓kPre, kPost, nI_eq, mulD_ii (i := c.2) (j := (m : Int) - (i : Nat)) (.inr (by omega)), fdivD_ii (i := c.2 * ((m : Int) - (i : Nat))) (j := (i : Nat) + 1) (by omega) (by omega)]
      exact ⟨(some _, _), .inl rfl⟩
    · have e : decide ((k : Int) ≤ (m : Nat)) = false := by
        apply decide_eq_false
        omega
      simp only [↓kPre, kPost, e, f1 (by omega)]
      rfl
theorem lch_eq {m k : Nat} (hm : m ≤ 12) (hk : k ≤ 12) : f__law_choose [.int m, .int k] = .ok (.int (LA.bin m k : Nat)) := by
  refine RsK.eq (R_run2 ?_)
  show Wp b__law_choose [.dat (.int m), .dat (.int k), .un, .un, .un] _
  unfold b__law_choose
  obtain ⟨f1, f2, f3⟩ := bin_facts m (by omega) k (by omega)
  simp only [↓kPre, kPost, rng1_ok (n := m) (by omega), list_range]
  refine W_forN m (st := fun i (c : Option D) => [.dat (.int m), .dat (.int k), .dat (.list ((pasc i).map nI)), gv c, .un]) none (fun i hi c => ?_) (fun c => ?_)
  · refine ⟨_, rfl, ?_⟩
    have hl := pasc_len i
    have el : lenD [.list ((pasc i).map nI)] = some (.int ((i + 1 : Nat) : Int)) := by rw [lenD_l, List.length_map, hl]
    simp only [↓kPre, kPost]
    refine E_mapG nI (List.range i) (fun k => nI ((pasc i).getD k 0 + (pasc i).getD (k + 1) 0)) ?_ (by simp) (by first | rfl | (simp [plainAt, plain_gv]; done) | (simp [plainAt, plain_gv, plainSlot]; done)) (by simp only [List.length_range]; omega) (fun k hk => ?_) ?_
    · have e1 : ((i + 1 : Nat) : Int) - 1 = (i : Nat) := by omega
      simp only [↓kPre, kPost, el, e1, rng1_ok (n := i) (by omega), list_range, and_self]
    · have hk := List.mem_range.mp hk
      have ek : ((k : Nat) : Int) + 1 = ((k + 1 : Nat) : Int) := rfl
      simp only [↓kPre, kPost, nI_eq, ek, nl_ix (show k < (pasc i).length by omega), nl_ix (w := pasc i) (k := k + 1) (by omega), and_true]
      rfl
    have e5 : (PyData.int 1 :: ((List.range i).map fun k => nI ((pasc i).getD k 0 + (pasc i).getD (k + 1) 0))) ++ [.int 1] = (pasc (i + 1)).map nI := by
      rw [pasc, hl, Nat.add_sub_cancel]
      simp only [List.map_append, List.map_cons, List.map_nil, List.map_map]
      rfl
    refine OpK.of (addL (by simp; omega)) ?_
    simp only [↓kPre, kPost]
    refine OpK.of (addL (by simp; omega)) ?_
    rw [show ([PyData.int 1] ++ (List.range i).map fun k => nI ((pasc i).getD k 0 + (pasc i).getD (k + 1) 0)) ++ [PyData.int 1] = (pasc (i + 1)).map nI from e5]
    simp only [↓kPre, kPost]
    exact ⟨some _, .inl rfl⟩
  · by_cases h : k ≤ m
    · have e : decide ((k : Int) ≤ (m : Nat)) = true := by
        apply decide_eq_true
        omega
      simp only [↓kPre, kPost, e]
      refine OpK.of (nl_ix (w := pasc m) (k := k) (by rw [pasc_len]; omega)) ?_
      simp only [↓kPre, kPost, (f2 h).2]
    · have e : decide ((k : Int) ≤ (m : Nat)) = false := by
        apply decide_eq_false
        omega
      simp only [↓kPre, kPost, e, f1 (by omega)]
      rfl
theorem tot_cast {α : Type} {f : α → Nat} : ∀ l : List α, (l.map fun k => ((f k : Nat) : Int)).sum = ((LA.tot (l.map f) : Nat) : Int)
  | [] => rfl
  | x :: l => by
    rw [List.map_cons, List.sum_cons, tot_cast l, List.map_cons, LA.tot_cons]
    omega
theorem ballP_eq {n s r : Nat} (hn : n ≤ 12) (hs : 1 ≤ s) (hs2 : s ≤ 16) (hr : r ≤ 12) : f_ball [.int n, .int s, .int r] = .ok (.int (LA.ballN n s r : Nat)) := by
  refine RsK.eq (R_run2 ?_)
  show Wp b_ball [.dat (.int n), .dat (.int s), .dat (.int r), .un] _
  unfold b_ball
  simp only [↓kPre, kPost]
  refine E_mapG nI (List.range (r + 1)) (fun k => .int ((LA.bin n k * (s - 1) ^ k : Nat) : Int)) ?_ (by simp) (by first | rfl | (simp [plainAt, plain_gv]; done) | (simp [plainAt, plain_gv, plainSlot]; done)) (by simp only [List.length_range]; omega) (fun k hk => ?_) ?_
  · simp only [↓kPre, kPost, show ((r : Nat) : Int) + 1 = ((r + 1 : Nat) : Int) from rfl, rng1_ok (n := r + 1) (by omega), list_range, and_self]
  · have hk := List.mem_range.mp hk
    have hb := (bin_facts n (by omega) k (by omega)).2.2
    have es : ((s : Nat) : Int) - 1 = ((s - 1 : Nat) : Int) := by omega
    simp only [↓kPre, kPost, nI_eq, es, chN_eq (m := n) (k := k) (by omega) (by omega), powN_eq (b := s - 1) (k := k) (by omega) (by omega), mul_nn (a := LA.bin n k) (b := (s - 1) ^ k) (.inl (by omega)), and_self]
  · have e : sumD [.list ((List.range (r + 1)).map fun k => .int ((LA.bin n k * (s - 1) ^ k : Nat) : Int))] = some (.int (LA.ballN n s r : Nat)) := by
      rw [sumD_mapf, tot_cast]
      rfl
    simp only [↓kPre, kPost, e]
theorem lball_eq {n s r : Nat} (hn : n ≤ 12) (hs : 1 ≤ s) (hs2 : s ≤ 16) (hr : r ≤ 12) : f__law_ball [.int n, .int s, .int r] = .ok (.int (LA.ballN n s r : Nat)) := by
  refine RsK.eq (R_run2 ?_)
  show Wp b__law_ball [.dat (.int n), .dat (.int s), .dat (.int r), .un] _
  unfold b__law_ball
  simp only [↓kPre, kPost]
  refine E_mapG nI (List.range (r + 1)) (fun k => .int ((LA.bin n k * (s - 1) ^ k : Nat) : Int)) ?_ (by simp) (by first | rfl | (simp [plainAt, plain_gv]; done) | (simp [plainAt, plain_gv, plainSlot]; done)) (by simp only [List.length_range]; omega) (fun k hk => ?_) ?_
  · simp only [↓kPre, kPost, show ((r : Nat) : Int) + 1 = ((r + 1 : Nat) : Int) from rfl, rng1_ok (n := r + 1) (by omega), list_range, and_self]
  · have hk := List.mem_range.mp hk
    have hb := (bin_facts n (by omega) k (by omega)).2.2
    have es : ((s : Nat) : Int) - 1 = ((s - 1 : Nat) : Int) := by omega
    simp only [↓kPre, kPost, nI_eq, es, lch_eq (m := n) (k := k) (by omega) (by omega), lpow_eq (b := s - 1) (k := k) (by omega) (by omega), mul_nn (a := LA.bin n k) (b := (s - 1) ^ k) (.inl (by omega)), and_self]
  · have e : sumD [.list ((List.range (r + 1)).map fun k => .int ((LA.bin n k * (s - 1) ^ k : Nat) : Int))] = some (.int (LA.ballN n s r : Nat)) := by
      rw [sumD_mapf, tot_cast]
      rfl
    simp only [↓kPre, kPost, e]
end FW

/-! Q12b: the bounds. -/
namespace FW
open PySem PySem.Spec L2
open PyProof.Rows hiding St
theorem bin_0 (n : Nat) : LA.bin n 0 = 1 := by cases n <;> rfl
theorem ball_pos (n s r : Nat) : 0 < LA.ballN n s r := by
  unfold LA.ballN
  rw [List.range_succ_eq_map, List.map_cons, LA.tot_cons, bin_0, Nat.pow_zero]
  omega
theorem ball_lt {n s r : Nat} (hn : n ≤ 12) (hs : s ≤ 16) (hr : r ≤ 12) : LA.ballN n s r < 2 ^ 100 := by
  unfold LA.ballN
  have h : LA.tot ((List.range (r + 1)).map fun k => LA.bin n k * (s - 1) ^ k) ≤ (List.range (r + 1)).length * (1000 * 16 ^ 12) := by
    refine LA.tot_le fun k hk => ?_
    have hk := List.mem_range.mp hk
    have hb := (bin_facts n (by omega) k (by omega)).2.2
    refine Nat.mul_le_mul (by omega) ?_
    exact Nat.le_trans (Nat.pow_le_pow_left (show s - 1 ≤ 16 by omega) k) (Nat.pow_le_pow_right (by decide) (by omega))
  rw [List.length_range] at h
  have h2 : (r + 1) * (1000 * 16 ^ 12) ≤ 13 * (1000 * 16 ^ 12) := Nat.mul_le_mul_right _ (by omega)
  have h3 : 13 * (1000 * 16 ^ 12) < 2 ^ 100 := by decide
  omega
theorem ceil_int {a b : Nat} (hb : 0 < b) : (0 : Int) - (0 - (a : Int)) / (b : Nat) = (((a + b - 1) / b : Nat) : Int) := by
  have h1 := Nat.div_add_mod (a + b - 1) b
  have h2 := Nat.mod_lt (a + b - 1) hb
  obtain ⟨q, eq⟩ : ∃ q, q = (a + b - 1) / b := ⟨_, rfl⟩
  rw [← eq] at h1 ⊢
  have h3 : (0 - (a : Int)) / (b : Nat) = -(q : Int) := by
    refine ((Int.ediv_emod_unique (b := ((b : Nat) : Int)) (r := (b : Int) * q - a) (by omega)).mpr ⟨?_, ?_, ?_⟩).1
    · rw [Int.mul_neg]
      omega
    · have : ((b * q : Nat) : Int) = (b : Int) * q := Int.natCast_mul _ _
      omega
    · have : ((b * q : Nat) : Int) = (b : Int) * q := Int.natCast_mul _ _
      omega
  rw [h3]
  omega
theorem ceil_nat {a b : Nat} (hb : 0 < b) : (a + b - 1) / b = a / b + (if a % b > 0 then 1 else 0) := by
  have h1 := Nat.div_add_mod a b
  have h2 := Nat.mod_lt a hb
  by_cases h : a % b > 0
  · rw [if_pos h]
    refine Nat.div_eq_of_lt_le ?_ ?_
    · rw [Nat.add_mul, Nat.mul_comm (a / b) b]
      omega
    · rw [Nat.add_mul, Nat.add_mul, Nat.mul_comm (a / b) b]
      omega
  · rw [if_neg h]
    refine Nat.div_eq_of_lt_le ?_ ?_
    · rw [Nat.add_mul, Nat.mul_comm (a / b) b]
      omega
    · rw [Nat.add_mul, Nat.add_mul, Nat.mul_comm (a / b) b]
      omega
def sphN (n s d : Nat) : Nat := s ^ n / LA.ballN n s ((d - 1) / 2)
def plcN (n s d : Nat) : Nat := s ^ (n - d + 1)
def smsO (n s d : Nat) : Option Nat := if (s - 1) * n < s * d then some (s * d / (s * d - (s - 1) * n)) else none
def oD : Option Nat → D
  | none => .none
  | some k => .int (k : Nat)
section
variable {n s d : Nat} (hn : n ≤ 12) (hs : 1 ≤ s) (hs2 : s ≤ 16) (hd : 1 ≤ d) (hd2 : d ≤ 12)
include hn hs hs2 hd hd2
theorem half_d : fdivD (.int ((d - 1 : Nat) : Int)) (.int 2) = some (.int (((d - 1) / 2 : Nat) : Int)) := fdiv_nn (b := 2) (by omega) (by omega)
theorem by_spheres_eq : f_by_spheres [.int n, .int s, .int d] = .ok (.int (sphN n s d : Nat)) := by
  refine RsK.eq (R_run2 ?_)
  show Wp b_by_spheres [.dat (.int n), .dat (.int s), .dat (.int d)] _
  unfold b_by_spheres
  have e1 : ((d : Nat) : Int) - 1 = ((d - 1 : Nat) : Int) := by omega
  have hb := ball_lt (n := n) (s := s) (r := (d - 1) / 2) hn hs2 (by omega)
  simp only [↓kPre, kPost, e1, half_d hn hs hs2 hd hd2, powN_eq (b := s) (k := n) (by omega) (by omega), ballP_eq (n := n) (s := s) (r := (d - 1) / 2) hn hs hs2 (by omega), fdiv_nn (a := s ^ n) (ball_pos n s ((d - 1) / 2)) (Nat.lt_of_lt_of_le hb (Nat.pow_le_pow_right (by decide) (by decide))), sphN]
theorem by_places_eq (h : d ≤ n) : f_by_places [.int n, .int s, .int d] = .ok (.int (plcN n s d : Nat)) := by
  refine RsK.eq (R_run2 ?_)
  show Wp b_by_places [.dat (.int n), .dat (.int s), .dat (.int d)] _
  unfold b_by_places
  have e1 : ((n : Nat) : Int) - (d : Nat) + 1 = ((n - d + 1 : Nat) : Int) := by omega
  simp only [↓kPre, kPost, e1, powN_eq (b := s) (k := n - d + 1) (by omega) (by omega), plcN]
theorem gap_pos (h : (s - 1) * n < s * d) : ((s * d : Nat) : Int) - ((s - 1) * n : Nat) = ((s * d - (s - 1) * n : Nat) : Int) := by omega
theorem sms_fdiv (h : (s - 1) * n < s * d) : fdivD (.int ((s * d : Nat) : Int)) (.int ((s * d - (s - 1) * n : Nat) : Int)) = some (.int ((s * d / (s * d - (s - 1) * n) : Nat) : Int)) := by
  have : s * d ≤ 16 * 12 := Nat.mul_le_mul hs2 hd2
  exact fdiv_nn (by omega) (by omega)
theorem by_sums_eq : f_by_sums [.int n, .int s, .int d] = .ok (oD (smsO n s d)) := by
  refine RsK.eq (R_run2 ?_)
  show Wp b_by_sums [.dat (.int n), .dat (.int s), .dat (.int d), .un] _
  unfold b_by_sums
  have e1 : ((s : Nat) : Int) - 1 = ((s - 1 : Nat) : Int) := by omega
  by_cases h : (s - 1) * n < s * d
  · have e2 := gap_pos hn hs hs2 hd hd2 h
    have e3 : decide ((0 : Int) < ((s * d - (s - 1) * n : Nat) : Int)) = true := decide_eq_true (by omega)
    simp only [↓kPre, kPost, e1, mul_nn (a := s) (b := d) (.inl (by omega)), mul_nn (a := s - 1) (b := n) (.inl (by omega)), e2, e3, sms_fdiv hn hs hs2 hd hd2 h, smsO, if_pos h, oD]
  · have e3 : decide ((0 : Int) < ((s * d : Nat) : Int) - ((s - 1) * n : Nat)) = false := decide_eq_false (by omega)
    simp only [↓kPre, kPost, e1, mul_nn (a := s) (b := d) (.inl (by omega)), mul_nn (a := s - 1) (b := n) (.inl (by omega)), e3, smsO, if_neg h, oD]
theorem law_sums_eq : f__law_sums [.int n, .int s, .int d] = .ok (oD (smsO n s d)) := by
  refine RsK.eq (R_run2 ?_)
  show Wp b__law_sums [.dat (.int n), .dat (.int s), .dat (.int d), .un] _
  unfold b__law_sums
  have e1 : ((s : Nat) : Int) - 1 = ((s - 1 : Nat) : Int) := by omega
  by_cases h : (s - 1) * n < s * d
  · have e2 := gap_pos hn hs hs2 hd hd2 h
    have e3 : decide ((0 : Int) < ((s * d - (s - 1) * n : Nat) : Int)) = true := decide_eq_true (by omega)
    simp only [↓kPre, kPost, e1, mul_nn (a := s) (b := d) (.inl (by omega)), mul_nn (a := s - 1) (b := n) (.inl (by omega)), e2, e3, sms_fdiv hn hs hs2 hd hd2 h, smsO, if_pos h, oD]
  · have e3 : decide ((0 : Int) < ((s * d : Nat) : Int) - ((s - 1) * n : Nat)) = false := decide_eq_false (by omega)
    simp only [↓kPre, kPost, e1, mul_nn (a := s) (b := d) (.inl (by omega)), mul_nn (a := s - 1) (b := n) (.inl (by omega)), e3, smsO, if_neg h, oD]
def bndD (n s d : Nat) : D := .dict [(.str "spheres", .int (sphN n s d : Nat)), (.str "places", .int (plcN n s d : Nat)), (.str "sums", oD (smsO n s d))]
theorem all_bounds_eq (h : d ≤ n) : f_all_bounds [.int n, .int s, .int d] = .ok (bndD n s d) := by
  refine RsK.eq (R_run2 ?_)
  show Wp b_all_bounds [.dat (.int n), .dat (.int s), .dat (.int d), .un] _
  unfold b_all_bounds
  simp only [↓kPre, kPost, by_spheres_eq hn hs hs2 hd hd2, by_places_eq hn hs hs2 hd hd2 h, by_sums_eq hn hs hs2 hd hd2]
  refine OpK.of (a := [(PyData.str "spheres", PyData.int (sphN n s d : Nat)), (PyData.str "places", PyData.int (plcN n s d : Nat))]) rfl ?_
  simp only [↓kPre, kPost, by_sums_eq hn hs hs2 hd hd2]
  refine OpK.of (a := .dic false [(PyData.str "spheres", PyData.int (sphN n s d : Nat)), (PyData.str "places", PyData.int (plcN n s d : Nat)), (PyData.str "sums", oD (smsO n s d))]) (by
    have : decide ((2 : Nat) < sizeLine) = true := by decide
    unfold setAtD
    simp only [List.length_cons, List.length_nil, this, Bool.and_true]
    rfl) ?_
  simp only [↓kPre, kPost]
  rfl
def smsB (n s d m : Nat) : Bool := match smsO n s d with
  | none => true
  | some k => decide (m ≤ k)
def keepsB (n s d m : Nat) : Bool := decide (m ≤ sphN n s d) && (decide (m ≤ plcN n s d) && smsB n s d m)
omit hn hs hs2 hd hd2
theorem is_i (k : Int) : isD (.int k) .none = some (.bool false) := rfl
theorem is_n : isD .none .none = some (.bool true) := rfl
theorem isnt_i (k : Int) : isntD (.int k) .none = some (.bool true) := rfl
theorem isnt_n : isntD .none .none = some (.bool false) := rfl
theorem dec_lt {a b : Nat} : decide ((a : Int) < (b : Nat)) = decide (a < b) := by
  rw [decide_eq_decide]
  omega
include hn hs hs2 hd hd2
theorem fits_eq (h : d ≤ n) {m : Nat} : f_fits_bounds [.int n, .int s, .int d, .int m] = .ok (.bool (keepsB n s d m)) := by
  refine RsK.eq (R_run2 ?_)
  show Wp b_fits_bounds [.dat (.int n), .dat (.int s), .dat (.int d), .dat (.int m), .un, .un] _
  unfold b_fits_bounds
  simp only [↓kPre, kPost, all_bounds_eq hn hs hs2 hd hd2 h]
  refine E_mapG (fun p : Str × Bool => PyData.str p.1) [("spheres", decide (m ≤ sphN n s d)), ("places", decide (m ≤ plcN n s d)), ("sums", smsB n s d m)] (fun p => .bool p.2) ?_ (by simp) (by first | rfl | (simp [plainAt, plain_gv]; done) | (simp [plainAt, plain_gv, plainSlot]; done)) (by simp) (fun x hx => ?_) ?_
  · simp only [↓kPre, kPost, show walkA (bndD n s d) = some ([(("spheres" : Str), decide (m ≤ sphN n s d)), ("places", decide (m ≤ plcN n s d)), ("sums", smsB n s d m)].map fun p => PyData.str p.1) from rfl, and_self]
  · have i1 : ixD (bndD n s d) (.str "spheres") = some (.int (sphN n s d : Nat)) := rfl
    have i2 : ixD (bndD n s d) (.str "places") = some (.int (plcN n s d : Nat)) := rfl
    have i3 : ixD (bndD n s d) (.str "sums") = some (oD (smsO n s d)) := rfl
    simp only [List.mem_cons, List.not_mem_nil, or_false] at hx
    rcases hx with rfl | rfl | rfl
    · simp only [↓kPre, kPost, i1, is_i, dec_nn, and_self]
    · simp only [↓kPre, kPost, i2, is_i, dec_nn, and_self]
    · unfold smsB
      cases e : smsO n s d with
      | none => simp only [↓kPre, kPost, i3, e, oD, is_n, and_self]
      | some k => simp only [↓kPre, kPost, i3, e, oD, is_i, dec_nn, and_self]
  · have e : allD [.list (([(("spheres" : Str), decide (m ≤ sphN n s d)), ("places", decide (m ≤ plcN n s d)), ("sums", smsB n s d m)] : List (Str × Bool)).map fun p => .bool p.2)] = some (.bool (keepsB n s d m)) := by
      show some (PyData.bool (decide (m ≤ sphN n s d) && (decide (m ≤ plcN n s d) && (smsB n s d m && true)))) = _
      rw [Bool.and_true]
      rfl
    simp only [↓kPre, kPost, e]
theorem keeps_eq (h : d ≤ n) {m : Nat} : f__law_keeps [.int n, .int s, .int d, .int m] = .ok (.bool (keepsB n s d m)) := by
  refine RsK.eq (R_run2 ?_)
  show Wp b__law_keeps [.dat (.int n), .dat (.int s), .dat (.int d), .dat (.int m), .un, .un] _
  unfold b__law_keeps
  have e1 : ((d : Nat) : Int) - 1 = ((d - 1 : Nat) : Int) := by omega
  have e2 : ((n : Nat) : Int) - (d : Nat) + 1 = ((n - d + 1 : Nat) : Int) := by omega
  have hb := ball_lt (n := n) (s := s) (r := (d - 1) / 2) hn hs2 (by omega)
  simp only [↓kPre, kPost, e1, half_d hn hs hs2 hd hd2, lpow_eq (b := s) (k := n) (by omega) (by omega), lball_eq (n := n) (s := s) (r := (d - 1) / 2) hn hs hs2 (by omega), fdiv_nn (a := s ^ n) (ball_pos n s ((d - 1) / 2)) (Nat.lt_of_lt_of_le hb (Nat.pow_le_pow_right (by decide) (by decide))), e2, lpow_eq (b := s) (k := n - d + 1) (by omega) (by omega), law_sums_eq hn hs hs2 hd hd2]
  refine E_selG oD [some (sphN n s d), some (plcN n s d), smsO n s d] (fun o => match o with | none => false | some k => decide (k < m)) oD ?_ (by simp) (by first | rfl | (simp [plainAt, plain_gv]; done) | (simp [plainAt, plain_gv, plainSlot]; done)) (by simp) (fun o ho => ?_) (fun o ho _ => ?_) ?_
  · simp only [↓kPre, kPost, walk_l]
    exact ⟨rfl, trivial⟩
  · cases o with
    | none => simp only [↓kPre, kPost, oD, isnt_n, and_self]
    | some k => simp only [↓kPre, kPost, oD, isnt_i, dec_lt, and_self]
  · simp only [↓kPre, kPost, and_self]
  · have e : decide (((([some (sphN n s d), some (plcN n s d), smsO n s d].filter fun o => match o with | none => false | some k => decide (k < m)).length : Nat) : Int) = 0) = keepsB n s d m := by
      have nle : ∀ k, decide (k < m) = !decide (m ≤ k) := fun k => by
        by_cases h : k < m
        · simp [h]
        · simp [h]
          omega
      unfold keepsB smsB
      cases smsO n s d with
      | none => cases h1 : decide (m ≤ sphN n s d) <;> cases h2 : decide (m ≤ plcN n s d) <;> simp [List.filter_cons, nle, h1, h2]
      | some k => cases h1 : decide (m ≤ sphN n s d) <;> cases h2 : decide (m ≤ plcN n s d) <;> cases h3 : decide (m ≤ k) <;> simp [List.filter_cons, nle, h1, h2, h3]
    simp only [↓kPre, kPost, lenD_l, List.length_map, e]
end
end FW

/-! Q12c: all words one behind the other, and those that are chosen. -/
namespace FW
open PySem PySem.Spec L2
open PyProof.Rows hiding St
theorem flat_congr {α β : Type} {f g : α → List β} : ∀ {l : List α}, (∀ x ∈ l, f x = g x) → l.flatMap f = l.flatMap g
  | [], _ => rfl
  | x :: l, h => by
    rw [List.flatMap_cons, List.flatMap_cons, h x List.mem_cons_self, flat_congr fun y hy => h y (List.mem_cons_of_mem _ hy)]
def tN (w : List Nat) : D := .tuple (w.map nI)
def dig (s : Nat) : Nat → Nat → List Nat
  | 0, _ => []
  | m + 1, i => dig s m (i / s) ++ [i % s]
theorem dig_len (s : Nat) : ∀ m i, (dig s m i).length = m
  | 0, _ => rfl
  | m + 1, i => by rw [dig, List.length_append, dig_len s m]; rfl
theorem dig_lt {s : Nat} (hs : 0 < s) : ∀ m i, ∀ x ∈ dig s m i, x < s
  | 0, _, x, h => by simp [dig] at h
  | m + 1, i, x, h => by
    rw [dig] at h
    rcases List.mem_append.mp h with h | h
    · exact dig_lt hs m _ x h
    · rw [List.mem_singleton.mp h]
      exact Nat.mod_lt _ hs
def wdsN (s m : Nat) : List (List Nat) := (List.range (s ^ m)).map (dig s m)
theorem range_mul {α : Type} (f : Nat → α) (s : Nat) : ∀ a : Nat, (List.range (a * s)).map f = (List.range a).flatMap fun q => (List.range s).map fun r => f (q * s + r)
  | 0 => by simp
  | a + 1 => by
    rw [Nat.add_mul, Nat.one_mul, List.range_add, List.map_append, range_mul f s a, List.range_succ, List.flatMap_append, List.map_map]
    simp only [List.flatMap_cons, List.flatMap_nil, List.append_nil]
    rfl
theorem wds_succ {s m : Nat} (hs : 0 < s) : wdsN s (m + 1) = (wdsN s m).flatMap fun w => (List.range s).map fun x => w ++ [x] := by
  unfold wdsN
  rw [Nat.pow_succ, range_mul, List.flatMap_map]
  refine flat_congr fun q _ => List.map_congr_left fun r hr => ?_
  have hr := List.mem_range.mp hr
  rw [dig]
  have e1 : (q * s + r) / s = q := by
    rw [Nat.mul_comm, Nat.mul_add_div hs, Nat.div_eq_of_lt hr]
    rfl
  have e2 : (q * s + r) % s = r := by
    rw [Nat.mul_comm, Nat.mul_add_mod, Nat.mod_eq_of_lt hr]
  rw [e1, e2]
theorem wds_allW {s : Sz} : ∀ m : Nat, (LA.allW (allG s) m).map vals = wdsN s.n m
  | 0 => rfl
  | m + 1 => by
    have := s.two
    rw [wds_succ (by omega), ← wds_allW m, LA.allW, List.map_flatMap, List.flatMap_map]
    refine flat_congr fun w _ => ?_
    rw [List.map_map, ← allG_val, List.map_map]
    refine List.map_congr_left fun x _ => ?_
    simp [vals, Function.comp]
theorem law_wordsN {s : Sz} {m : Nat} (h : s.n ^ m ≤ 100000) (hm : m ≤ 1000) : f__law_words [.int s.n, .int m] = .ok (.list ((wdsN s.n m).map tN)) := by
  rw [law_words_eq h hm, ← wds_allW, List.map_map]
  congr 3
  funext w
  unfold encW tN
  rw [gI_vals]
  rfl
theorem getD_snoc {w : List Nat} {x k : Nat} (h : k < w.length) : (w ++ [x]).getD k 0 = w.getD k 0 := by
  rw [List.getD_eq_getElem?_getD, List.getD_eq_getElem?_getD, List.getElem?_append_left h]
theorem getD_last {w : List Nat} {x : Nat} : (w ++ [x]).getD w.length 0 = x := by
  rw [List.getD_eq_getElem?_getD, List.getElem?_append_right (Nat.le_refl _), Nat.sub_self]
  rfl
/-- the last one -/
theorem dig_last {s : Nat} (hs : 0 < s) : ∀ m i : Nat, i < s ^ m → (∀ k < m, ¬ (dig s m i).getD k 0 + 1 < s) → i + 1 = s ^ m
  | 0, i, h, _ => by simp at h; simp [h]
  | m + 1, i, h, ha => by
    have hl := dig_len s m (i / s)
    have h1 : i / s < s ^ m := by
      rw [Nat.pow_succ] at h
      exact Nat.div_lt_of_lt_mul (by rw [Nat.mul_comm]; exact h)
    have ih := dig_last hs m (i / s) h1 fun k hk => by
      have := ha k (by omega)
      rwa [dig, getD_snoc (by omega)] at this
    have h2 := ha m (by omega)
    rw [dig] at h2
    have e : (dig s m (i / s) ++ [i % s]).getD m 0 = i % s := by
      have := getD_last (w := dig s m (i / s)) (x := i % s)
      rwa [hl] at this
    rw [e] at h2
    have h3 := Nat.mod_lt i hs
    have h4 := Nat.div_add_mod i s
    rw [Nat.pow_succ, ← ih, Nat.add_mul, Nat.mul_comm (i / s) s]
    omega
/-- the next one -/
theorem dig_next {s : Nat} (hs : 0 < s) : ∀ m i k : Nat, i < s ^ m → k < m → (dig s m i).getD k 0 + 1 < s → (∀ k', k < k' → k' < m → ¬ (dig s m i).getD k' 0 + 1 < s) →
    i + 1 < s ^ m ∧ dig s m (i + 1) = (dig s m i).take k ++ [(dig s m i).getD k 0 + 1] ++ List.replicate (m - k - 1) 0
  | 0, _, k, _, hk, _, _ => by omega
  | m + 1, i, k, h, hk, h0, ha => by
    have hl := dig_len s m (i / s)
    have h1 : i / s < s ^ m := by
      rw [Nat.pow_succ] at h
      exact Nat.div_lt_of_lt_mul (by rw [Nat.mul_comm]; exact h)
    have h3 := Nat.mod_lt i hs
    have h4 := Nat.div_add_mod i s
    have e : (dig s m (i / s) ++ [i % s]).getD m 0 = i % s := by
      have := getD_last (w := dig s m (i / s)) (x := i % s)
      rwa [hl] at this
    by_cases hkm : k = m
    · subst hkm
      rw [dig, e] at h0
      have e1 : (i + 1) / s = i / s := by
        have : i + 1 = s * (i / s) + (i % s + 1) := by omega
        rw [this, Nat.mul_add_div hs, Nat.div_eq_of_lt h0]
        rfl
      have e2 : (i + 1) % s = i % s + 1 := by
        have : i + 1 = s * (i / s) + (i % s + 1) := by omega
        rw [this, Nat.mul_add_mod, Nat.mod_eq_of_lt h0]
      refine ⟨?_, ?_⟩
      · rw [Nat.pow_succ, Nat.mul_comm]
        have : s * (i / s + 1) ≤ s * s ^ k := Nat.mul_le_mul_left _ h1
        rw [Nat.mul_add] at this
        omega
      · rw [dig, dig, e, e1, e2]
        have : (dig s k (i / s) ++ [i % s]).take k = dig s k (i / s) := by
          rw [List.take_append_of_le_length (by omega), List.take_of_length_le (by omega)]
        rw [this]
        simp
    · have hk2 : k < m := by omega
      have hm := ha m (by omega) (by omega)
      rw [dig, e] at hm
      have e0 : i % s = s - 1 := by omega
      obtain ⟨j1, j2⟩ := dig_next hs m (i / s) k h1 hk2 (by rwa [dig, getD_snoc (by omega)] at h0) fun k' a b => by
        have := ha k' a (by omega)
        rwa [dig, getD_snoc (by omega)] at this
      have e1 : (i + 1) / s = i / s + 1 := by
        have : i + 1 = s * (i / s + 1) + 0 := by rw [Nat.mul_add]; omega
        rw [this, Nat.mul_add_div hs, Nat.zero_div]
      have e2 : (i + 1) % s = 0 := by
        have : i + 1 = s * (i / s + 1) + 0 := by rw [Nat.mul_add]; omega
        rw [this, Nat.mul_add_mod, Nat.zero_mod]
      refine ⟨?_, ?_⟩
      · rw [Nat.pow_succ, Nat.mul_comm]
        have : s * (i / s + 1 + 1) ≤ s * s ^ m := Nat.mul_le_mul_left _ j1
        rw [Nat.mul_add, Nat.mul_add] at this
        omega
      · rw [dig, dig, e1, e2, j2, getD_snoc (by omega), List.take_append_of_le_length (by omega)]
        have : m + 1 - k - 1 = (m - k - 1) + 1 := by omega
        rw [this, List.replicate_succ']
        simp
end FW

/-! Q12d: shortest, surely, surely_rows; greedy. -/
namespace FW
open PySem PySem.Spec L2
open PyProof.Rows hiding St
def nowI (s d : Nat) : Nat → Nat
  | 0 => d
  | i + 1 => (nowI s d i + s - 1) / s
def fndI (s d : Nat) : Nat → Nat
  | 0 => 0
  | i + 1 => fndI s d i + nowI s d i
theorem nowI_succ (s d : Nat) : ∀ i, nowI s d (i + 1) = nowI s ((d + s - 1) / s) i
  | 0 => rfl
  | i + 1 => by rw [nowI, nowI_succ s d i]; rfl
theorem fndI_succ (s d : Nat) : ∀ i, fndI s d (i + 1) = d + fndI s ((d + s - 1) / s) i
  | 0 => by simp [fndI, nowI]
  | i + 1 => by
    rw [fndI, fndI_succ s d i, nowI_succ, fndI]
    omega
theorem fndI_sh (s : Nat) : ∀ r d, fndI s d r = LA.shF s r d
  | 0, _ => rfl
  | r + 1, d => by rw [fndI_succ, LA.shF, fndI_sh s r]
theorem shortest_eq {s r d : Nat} (hs : 1 ≤ s) (hs2 : s ≤ 16) (hr : r ≤ 100) : f_shortest [.int s, .int r, .int d] = .ok (.int (LA.shF s r d : Nat)) := by
  refine RsK.eq (R_run2 ?_)
  show Wp b_shortest [.dat (.int s), .dat (.int r), .dat (.int d), .un, .un, .un] _
  unfold b_shortest
  simp only [↓kPre, kPost, rng1_ok (n := r) (by omega), list_range]
  refine W_forN r (st := fun i (c : Option D) => [.dat (.int s), .dat (.int r), .dat (.int d), .dat (.int (fndI s d i : Nat)), .dat (.int (nowI s d i : Nat)), gv c]) none (fun i hi c => ?_) (fun c => ?_)
  · refine ⟨_, rfl, ?_⟩
    have e1 : ((fndI s d i : Nat) : Int) + (nowI s d i : Nat) = ((fndI s d (i + 1) : Nat) : Int) := rfl
    have e2 : (0 : Int) - (0 - (nowI s d i : Nat)) / (s : Nat) = ((nowI s d (i + 1) : Nat) : Int) := ceil_int (by omega)
    have e3 : addI (.int (fndI s d i : Nat)) (.int (nowI s d i : Nat)) = some (.int (fndI s d (i + 1) : Nat)) := rfl
    simp only [↓kPre, kPost, e3, fdivD_ii (i := 0 - ((nowI s d i : Nat) : Int)) (j := (s : Nat)) (by omega) (by omega), e2]
    exact ⟨some _, .inl rfl⟩
  · simp only [↓kPre, kPost, fndI_sh]
section
variable {n s d : Nat} (hn : n ≤ 12) (hs : 1 ≤ s) (hs2 : s ≤ 16) (hd : 1 ≤ d) (hd2 : d ≤ 12)
include hn hs hs2 hd hd2
def surN (n s d : Nat) : Nat := (s ^ n + LA.ballN n s (d - 1) - 1) / LA.ballN n s (d - 1)
theorem surely_eq : f_surely [.int n, .int s, .int d] = .ok (.int (surN n s d : Nat)) := by
  refine RsK.eq (R_run2 ?_)
  show Wp b_surely [.dat (.int n), .dat (.int s), .dat (.int d), .un] _
  unfold b_surely
  have e1 : ((d : Nat) : Int) - 1 = ((d - 1 : Nat) : Int) := by omega
  have hb := ball_lt (n := n) (s := s) (r := d - 1) hn hs2 (by omega)
  have hb2 : 2 ^ 100 < 2 ^ 200 := by decide
  have hp := ball_pos n s (d - 1)
  simp only [↓kPre, kPost, e1, ballP_eq (n := n) (s := s) (r := d - 1) hn hs hs2 (by omega), powN_eq (b := s) (k := n) (by omega) (by omega), fdivD_ii (i := 0 - ((s ^ n : Nat) : Int)) (j := (LA.ballN n s (d - 1) : Nat)) (by omega) (by omega), ceil_int (a := s ^ n) hp, surN]
/-- what the rows of checks must leave -/
def toldN (n s d : Nat) : Nat := LA.tot ((List.range (d - 1)).map fun k => LA.bin (n - 1) k * (s - 1) ^ k)
def okS (n s d c : Nat) : Bool := decide (toldN n s d < s ^ c) || decide (d = 1)
omit hn hs hs2 hd hd2
/-- the first number of checks that does -/
def firS (n s d : Nat) : Nat → Nat
  | 0 => 0
  | i + 1 => if firS n s d i = i ∧ okS n s d i = false then i + 1 else firS n s d i
theorem firS_le (n s d : Nat) : ∀ i, firS n s d i ≤ i ∧ (∀ c < firS n s d i, okS n s d c = false) ∧ (firS n s d i < i → okS n s d (firS n s d i) = true)
  | 0 => ⟨Nat.le_refl _, fun c h => absurd h (Nat.not_lt_zero c), fun h => absurd h (Nat.not_lt_zero _)⟩
  | i + 1 => by
    obtain ⟨h1, h2, h3⟩ := firS_le n s d i
    rw [firS]
    split
    · rename_i h
      refine ⟨Nat.le_refl _, fun c hc => ?_, fun h => absurd h (Nat.lt_irrefl _)⟩
      by_cases e : c = i
      · rw [e]
        exact h.2
      · exact h2 c (by omega)
    · rename_i h
      refine ⟨by omega, h2, fun hlt => ?_⟩
      by_cases e : firS n s d i = i
      · rw [e]
        cases h4 : okS n s d i with
        | true => rfl
        | false => exact absurd ⟨e, h4⟩ h
      · exact h3 (by omega)
include hn hs hs2 hd hd2
theorem surely_rows_eq (h1 : 1 ≤ n) : f_surely_rows [.int n, .int s, .int d] = .ok (.int (n - firS n s d n : Nat)) := by
  refine RsK.eq (R_run2 ?_)
  show Wp b_surely_rows [.dat (.int n), .dat (.int s), .dat (.int d), .un, .un, .un] _
  unfold b_surely_rows
  obtain ⟨f1, f2, f3⟩ := firS_le n s d n
  have e0 : ((n : Nat) : Int) + 1 = ((n + 1 : Nat) : Int) := rfl
  have e1 : ((d : Nat) : Int) - 1 = ((d - 1 : Nat) : Int) := by omega
  have em : maxX [.int 0, .int ((d - 1 : Nat) : Int)] = some (.int ((d - 1 : Nat) : Int)) := by
    show some (PyData.int (if ((d - 1 : Nat) : Int) > 0 then ((d - 1 : Nat) : Int) else 0)) = _
    congr 2
    split <;> omega
  have e2 : ((n : Nat) : Int) - 1 = ((n - 1 : Nat) : Int) := by omega
  have e3 : ((s : Nat) : Int) - 1 = ((s - 1 : Nat) : Int) := by omega
  simp only [↓kPre, kPost, e0, rng1_ok (n := n + 1) (by omega), list_range]
  refine W_forR nI (xs := List.range (n + 1)) (st := fun (i : Nat) (c : Option D × Option D) => [.dat (.int n), .dat (.int s), .dat (.int d), gv c.1, gv c.2, .un]) (step := fun i _ => i + 1) (stop := fun _ x => okS n s d x) (ret := fun _ x => .int ((n - x : Nat) : Int)) (I := fun i s => s = i) 0 (none, none) rfl (fun i x hx st c hI => ?_) (fun c _ hall => ?_) (fun j x S' hj hall hst _ => ?_)
  · obtain ⟨hi, rfl⟩ := rangeAt hx
    subst hI
    refine ⟨_, rfl, ?_⟩
    have key : ∀ Q : Out → Prop, (∀ S', okS n s d st = true → Q (.rt (.int ((n - st : Nat) : Int)) S')) → (okS n s d st = false → Q (.nx [.dat (.int n), .dat (.int s), .dat (.int d), .dat (.int st), .dat (.int (toldN n s d : Nat)), .un])) → 
        Wp (sSeq (sSet 4 (eB sumD (aCons (eFz (eComp [5] (iR1 (aCons (eB maxX (aCons (eC (.int 0)) (aCons (eBin subD (eV 2) (eC (.int 1))) (aNil)))) (aNil))) (gN 5) (bYes) (eBin mulD (eCall 2 (f_choose) (aCons (eBin subD (eV 0) (eC (.int 1))) (aCons (eV 5) (aNil)))) (eCall 2 (f_power) (aCons (eBin subD (eV 1) (eC (.int 1))) (aCons (eV 5) (aNil))))))) (aNil)))) (sSeq (sIf (bOr (bOf (eBin ltD (eV 4) (eCall 2 (f_power) (aCons (eV 1) (aCons (eV 3) (aNil)))))) (bOf (eBin eqD (eV 2) (eC (.int 1))))) (sSeq (sRet (eBin subD (eV 0) (eV 3))) (sNx)) (sNx)) (sNx))) [.dat (.int n), .dat (.int s), .dat (.int d), .dat (.int st), gv c.2, .un] Q := fun Q q1 q2 => by
      simp only [↓kPre, kPost, e1, em]
      refine E_mapG nI (List.range (d - 1)) (fun k => .int ((LA.bin (n - 1) k * (s - 1) ^ k : Nat) : Int)) ?_ (by simp) (by first | rfl | (simp [plainAt, plain_gv]; done) | (simp [plainAt, plain_gv, plainSlot]; done)) (by simp only [List.length_range]; omega) (fun k hk => ?_) ?_
      · simp only [↓kPre, kPost, e1, em, rng1_ok (n := d - 1) (by omega), list_range, and_self]
      · have hk := List.mem_range.mp hk
        have hb := (bin_facts (n - 1) (by omega) k (by omega)).2.2
        simp only [↓kPre, kPost, nI_eq, e2, e3, chN_eq (m := n - 1) (k := k) (by omega) (by omega), powN_eq (b := s - 1) (k := k) (by omega) (by omega), mul_nn (a := LA.bin (n - 1) k) (b := (s - 1) ^ k) (.inl (by omega)), and_self]
      · have e : sumD [.list ((List.range (d - 1)).map fun k => .int ((LA.bin (n - 1) k * (s - 1) ^ k : Nat) : Int))] = some (.int (toldN n s d : Nat)) := by
          rw [sumD_mapf, tot_cast]
          rfl
        simp only [↓kPre, kPost, e, powN_eq (b := s) (k := st) (by omega) (by omega), dec_lt]
        have e5 : ((n : Nat) : Int) - (st : Nat) = ((n - st : Nat) : Int) := by omega
        by_cases h : toldN n s d < s ^ st
        · have e4 : decide (toldN n s d < s ^ st) = true := decide_eq_true h
          have ok : okS n s d st = true := by unfold okS; rw [e4]; rfl
          simp only [↓kPre, kPost, e4, e5]
          exact q1 _ ok
        · have e4 : decide (toldN n s d < s ^ st) = false := decide_eq_false h
          by_cases h5 : d = 1
          · have e6 : decide (((d : Nat) : Int) = 1) = true := decide_eq_true (by omega)
            have ok : okS n s d st = true := by unfold okS; rw [e4, decide_eq_true h5]; rfl
            simp only [↓kPre, kPost, e4, e5, e6]
            exact q1 _ ok
          · have e6 : decide (((d : Nat) : Int) = 1) = false := decide_eq_false (by omega)
            have ok : okS n s d st = false := by unfold okS; rw [e4, decide_eq_false h5]; rfl
            simp only [↓kPre, kPost, e4, e5, e6]
            exact q2 ok
    cases h4 : okS n s d st with
    | true =>
      refine .inr ⟨rfl, key _ (fun S' _ => ⟨S', rfl⟩) fun h => by rw [h4] at h; cases h⟩
    | false =>
      refine .inl ⟨rfl, rfl, key _ (fun S' h => by rw [h4] at h; cases h) fun _ => ⟨(some _, some _), .inl rfl⟩⟩
  · simp only [↓kPre, kPost]
    have : firS n s d n = n := by
      by_cases e : firS n s d n < n
      · have := f3 e
        have h5 := hall (firS n s d n) (firS n s d n) (by rw [List.getElem?_range (by omega)])
        rw [this] at h5
        cases h5
      · omega
    rw [this, Nat.sub_self]
    rfl
  · obtain ⟨hi, rfl⟩ := rangeAt hj
    have : firS n s d n = j := by
      by_cases e : firS n s d n < j
      · have := f3 (by omega)
        have h5 := hall (firS n s d n) (firS n s d n) e (by rw [List.getElem?_range (by omega)])
        rw [this] at h5
        cases h5
      · by_cases e2 : j < firS n s d n
        · have := f2 j e2
          rw [this] at hst
          cases hst
        · omega
    show PyData.int _ = PyData.int _
    rw [this]
end
end FW

/-! Q12e: greedy. -/
namespace FW
open PySem PySem.Spec L2
open PyProof.Rows hiding St
theorem tN_ix {w : List Nat} {k : Nat} (h : k < w.length) : ixD (tN w) (.int (k : Nat)) = some (.int (w.getD k 0 : Nat)) := by
  refine ixT_g nI ?_
  rw [List.getD_eq_getElem?_getD, List.getElem?_eq_getElem h]
  rfl
theorem tN_len {w : List Nat} : lenD [tN w] = some (.int (w.length : Nat)) := by
  unfold tN
  rw [lenD_t, List.length_map]
def farN (x y : List Nat) : Nat := ((List.range x.length).filter fun k => x.getD k 0 != y.getD k 0).length
theorem law_far_eq {r w : List Nat} (hl : r.length ≤ w.length) (hs : r.length ≤ 1000000) : f__law_far [tN r, tN w] = .ok (.int (farN r w : Nat)) := by
  refine RsK.eq (R_run2 ?_)
  show Wp b__law_far [.dat (tN r), .dat (tN w), .un] _
  unfold b__law_far
  simp only [↓kPre, kPost]
  refine E_selG nI (List.range r.length) (fun k => r.getD k 0 != w.getD k 0) nI ?_ (by simp) (by first | rfl | (simp [plainAt, plain_gv]; done) | (simp [plainAt, plain_gv, plainSlot]; done)) (by simp; omega) (fun k hk => ?_) (fun k hk _ => ?_) ?_
  · simp only [↓kPre, kPost, tN_len, rng1_ok (n := r.length) (by omega), list_range, and_self]
  · have hk := List.mem_range.mp hk
    have e : (!decide ((r.getD k 0 : Int) = (w.getD k 0 : Nat))) = (r.getD k 0 != w.getD k 0) := by
      rw [Bool.eq_iff_iff]
      simp
      omega
    simp only [↓kPre, kPost, nI_eq, tN_ix hk, tN_ix (show k < w.length by omega), e, and_self]
  · simp only [↓kPre, kPost, and_self]
  simp only [↓kPre, kPost, farN]
def okG (d : Nat) (acc : List (List Nat)) (w : List Nat) : Bool := acc.all fun o => decide (d ≤ farN w o)
def stepG (d : Nat) (acc : List (List Nat)) (w : List Nat) : List (List Nat) := if okG d acc w then acc ++ [w] else acc
def grN (d : Nat) (ws : List (List Nat)) : List (List Nat) := ws.foldl (stepG d) []
theorem grN_snoc (d : Nat) (ws : List (List Nat)) (w : List Nat) : grN d (ws ++ [w]) = stepG d (grN d ws) w := by
  unfold grN
  rw [List.foldl_append]
  rfl
theorem grN_sub (d : Nat) : ∀ ws : List (List Nat), (grN d ws).length ≤ ws.length ∧ ∀ x ∈ grN d ws, x ∈ ws := by
  refine LA.snoc_ind ⟨Nat.le_refl _, fun x h => h⟩ fun ws w ih => ?_
  rw [grN_snoc, stepG]
  split
  · refine ⟨by simp; exact ih.1, fun x hx => ?_⟩
    rcases List.mem_append.mp hx with hx | hx
    · exact List.mem_append_left _ (ih.2 x hx)
    · exact List.mem_append_right _ hx
  · exact ⟨by simp; have := ih.1; omega, fun x hx => List.mem_append_left _ (ih.2 x hx)⟩
theorem rng_down : ∀ m < 7, rng3 [.int ((m : Nat) - 1), .int (-1), .int (-1)] = some (((List.range m).map fun k => m - 1 - k).map nI) := by
  intro m hm
  match m, hm with
  | 0, _ => kernel_rfl
  | 1, _ => kernel_rfl
  | 2, _ => kernel_rfl
  | 3, _ => kernel_rfl
  | 4, _ => kernel_rfl
  | 5, _ => kernel_rfl
  | 6, _ => kernel_rfl
theorem tN_take {w : List Nat} {p : Nat} (h : p ≤ w.length) : slD (tN w) none (some (p : Int)) = some (tN (w.take p)) := by
  show some (PyData.tuple (cutD (w.map nI) none (some (p : Int)))) = _
  unfold cutD
  rw [HT.sIx_none, HT.sIx_nat, List.length_map, Nat.min_eq_left h, List.drop_zero, Nat.sub_zero, ← List.map_take]
  rfl
theorem tN_snoc {w : List Nat} {x : Nat} (h : w.length ≤ 1000) : addD (tN w) (.tuple [.int (x : Nat)]) = some (tN (w ++ [x])) := by
  unfold tN
  rw [addTu (by simp; omega), List.map_append]
  rfl
theorem tN_rep {w : List Nat} {n : Nat} (h : w.length ≤ 1000) (hn : n ≤ 1000) : addD (tN w) (.tuple (List.replicate n (.int 0))) = some (tN (w ++ List.replicate n 0)) := by
  unfold tN
  rw [addTu (by simp; omega), List.map_append, List.map_replicate]
  rfl
theorem down_at {m j x : Nat} (h : ((List.range m).map fun k => m - 1 - k)[j]? = some x) : j < m ∧ x = m - 1 - j := by
  obtain ⟨h1, h2⟩ := List.getElem?_eq_some_iff.mp h
  rw [List.length_map, List.length_range] at h1
  rw [List.getElem_map, List.getElem_range] at h2
  exact ⟨h1, h2.symm⟩
theorem next_eq {s m i : Nat} (hs : 1 ≤ s) (hs2 : s ≤ 16) (hm : m < 7) (hi : i < s ^ m) : f_next_word [.int s, tN (dig s m i)] = .ok (if i + 1 < s ^ m then tN (dig s m (i + 1)) else .none) := by
  refine RsK.eq (R_run2 ?_)
  show Wp b_next_word [.dat (.int s), .dat (tN (dig s m i)), .un] _
  unfold b_next_word
  have hl := dig_len s m i
  obtain ⟨v, ev⟩ : ∃ v, v = dig s m i := ⟨_, rfl⟩
  have hln := dig_last (s := s) (by omega) m i hi
  have hnx := dig_next (s := s) (by omega) m i
  rw [← ev] at hl hln hnx ⊢
  have en : negD (.int 1) = some (.int (-1)) := rfl
  simp only [↓kPre, kPost, tN_len, hl, en, rng_down m hm]
  refine W_forR nI (xs := (List.range m).map fun k => m - 1 - k) (st := fun (_ : Unit) (c : Option D) => [.dat (.int s), .dat (tN v), gv c]) (step := fun _ _ => ()) (stop := fun _ k => decide (v.getD k 0 + 1 < s)) (ret := fun _ k => tN (v.take k ++ [v.getD k 0 + 1] ++ List.replicate (m - k - 1) 0)) (I := fun _ _ => True) () none trivial (fun j k hj st c _ => ?_) (fun c _ hall => ?_) (fun j k S' hj hall hst _ => ?_)
  · obtain ⟨hj1, hk⟩ := down_at hj
    refine ⟨_, rfl, ?_⟩
    have hkm : k < v.length := by omega
    have e1 : ((v.getD k 0 : Nat) : Int) + 1 = ((v.getD k 0 + 1 : Nat) : Int) := rfl
    have e2 : ((m : Nat) : Int) - (k : Nat) - 1 = ((m - k - 1 : Nat) : Int) := by omega
    cases h4 : decide (v.getD k 0 + 1 < s) with
    | true =>
      refine .inr ⟨rfl, ?_⟩
      simp only [↓kPre, kPost, nI_eq, tN_ix hkm, e1, dec_lt, h4, tN_take (w := v) (p := k) (by omega), tN_len, hl, e2, rep_tup (d := .int 0) (m := m - k - 1) (by omega), tN_snoc (w := v.take k) (x := v.getD k 0 + 1) (by rw [List.length_take]; omega), tN_rep (w := v.take k ++ [v.getD k 0 + 1]) (n := m - k - 1) (by rw [List.length_append, List.length_take]; simp; omega) (by omega)]
      exact ⟨_, rfl⟩
    | false =>
      refine .inl ⟨rfl, trivial, ?_⟩
      simp only [↓kPre, kPost, nI_eq, tN_ix hkm, e1, dec_lt, h4]
      exact ⟨some _, .inl rfl⟩
  · simp only [↓kPre, kPost]
    have := hln fun k hk => by
      have h5 := hall (m - 1 - k) k (by
        rw [List.getElem?_map, List.getElem?_range (by omega)]
        show some (m - 1 - (m - 1 - k)) = some k
        congr 1
        omega)
      simpa using h5
    rw [if_neg (by omega)]
  · obtain ⟨hj1, hk⟩ := down_at hj
    obtain ⟨n1, n2⟩ := hnx k hi (by omega) (of_decide_eq_true hst) fun k' a b => by
      have h5 := hall (m - 1 - k') k' (by omega) (by
        rw [List.getElem?_map, List.getElem?_range (by omega)]
        show some (m - 1 - (m - 1 - k')) = some k'
        congr 1
        omega)
      simpa using h5
    show tN _ = _
    rw [if_pos n1, n2]
def atW (s m i : Nat) : D := if i < s ^ m then tN (dig s m i) else .none
set_option maxHeartbeats 1000000 in
theorem greedy_eq {s m d : Nat} (hs : 1 ≤ s) (hs2 : s ≤ 16) (hm : m < 7) (hp : s ^ m ≤ 300) : f_greedy [.int s, .int m, .int d] = .ok (.list ((grN d (wdsN s m)).map tN)) := by
  refine RsK.eq (R_run2 ?_)
  show Wp b_greedy [.dat (.int s), .dat (.int m), .dat (.int d), .un, .un, .un, .un] _
  unfold b_greedy
  have e1 : decide ((5000 : Int) < ((s ^ m : Nat) : Int)) = false := decide_eq_false (by omega)
  have p0 : 0 < s ^ m := Nat.pow_pos (by omega)
  have hlen : (wdsN s m).length = s ^ m := by simp [wdsN]
  have hat : ∀ i < s ^ m, (wdsN s m)[i]? = some (dig s m i) := fun i hi => by
    unfold wdsN
    rw [List.getElem?_map, List.getElem?_range hi]
    rfl
  have hz : mulD (.tuple [.int 0]) (.int (m : Nat)) = some (tN (dig s m 0)) := by
    rw [rep_tup (by omega)]
    have : ∀ m, dig s m 0 = List.replicate m 0 := fun m => by
      induction m with
      | zero => rfl
      | succ m ih => rw [dig, Nat.zero_div, ih, Nat.zero_mod, List.replicate_succ']
    rw [this]
    unfold tN
    rw [List.map_replicate]
    rfl
  have hg : ∀ i ≤ s ^ m, ((grN d ((wdsN s m).take i)).length ≤ 300) ∧ ∀ x ∈ grN d ((wdsN s m).take i), x.length = m := fun i hi => by
    obtain ⟨g1, g2⟩ := grN_sub d ((wdsN s m).take i)
    refine ⟨by rw [List.length_take] at g1; omega, fun x hx => ?_⟩
    have := List.mem_of_mem_take (g2 x hx)
    obtain ⟨j, _, rfl⟩ := List.mem_map.mp this
    exact dig_len s m j
  simp only [↓kPre, kPost, powN_eq (b := s) (k := m) (by omega) (by omega), e1, hz]
  refine W_whileN (st := fun i => [.dat (.int s), .dat (.int m), .dat (.int d), .own ((grN d ((wdsN s m).take i)).map tN), .dat (atW s m i), .un, .un]) (s ^ m) ?_ (by omega) (fun i hi => ?_) (fun i hi => ?_) ?_ ?_
  · simp only [atW, if_pos p0]
    rfl
  · have : isntD (atW s m i) .none = some (.bool true) := by
      rw [atW, if_pos hi]
      rfl
    simp only [↓kPre, kPost, this, and_self]
  · obtain ⟨g1, g2⟩ := hg i (by omega)
    have e2 : (wdsN s m).take (i + 1) = (wdsN s m).take i ++ [dig s m i] := take_snoc (hat i hi)
    have e3 := grN_snoc d ((wdsN s m).take i) (dig s m i)
    rw [← e2] at e3
    have nx := next_eq hs hs2 hm hi
    have hl := dig_len s m i
    obtain ⟨acc, ea⟩ : ∃ acc, acc = grN d ((wdsN s m).take i) := ⟨_, rfl⟩
    rw [← ea] at g1 g2 e3
    show Wp _ [.dat (.int s), .dat (.int m), .dat (.int d), .own ((grN d ((wdsN s m).take i)).map tN), .dat (atW s m i), .un, .un] fun o => o = .nx [.dat (.int s), .dat (.int m), .dat (.int d), .own ((grN d ((wdsN s m).take (i + 1))).map tN), .dat (atW s m (i + 1)), .un, .un] ∨ o = .ct [.dat (.int s), .dat (.int m), .dat (.int d), .own ((grN d ((wdsN s m).take (i + 1))).map tN), .dat (atW s m (i + 1)), .un, .un]
    rw [← ea, e3, show atW s m i = tN (dig s m i) from if_pos hi]
    simp only [↓kPre, kPost]
    refine E_mapO tN acc (fun o => .bool (decide (d ≤ farN (dig s m i) o))) rfl (by decide) (by simp) (by first | rfl | (simp [plainAt, plain_gv]; done) | (simp [plainAt, plain_gv, plainSlot]; done)) (by omega) (fun o ho => ?_) ?_
    · have lo := g2 o ho
      simp only [↓kPre, kPost]
      refine E_selG nI (List.range m) (fun k => (dig s m i).getD k 0 != o.getD k 0) nI ?_ (by simp) (by first | rfl | (simp [plainAt, plain_gv]; done) | (simp [plainAt, plain_gv, plainSlot]; done)) (by simp; omega) (fun k hk => ?_) (fun k hk _ => ?_) ?_
      · simp only [↓kPre, kPost, rng1_ok (n := m) (by omega), list_range, and_self]
      · have hk := List.mem_range.mp hk
        have e : (!decide (((dig s m i).getD k 0 : Int) = (o.getD k 0 : Nat))) = ((dig s m i).getD k 0 != o.getD k 0) := by
          rw [Bool.eq_iff_iff]
          simp
          omega
        simp only [↓kPre, kPost, nI_eq, tN_ix (show k < (dig s m i).length by omega), tN_ix (show k < o.length by omega), e, and_self]
      · simp only [↓kPre, kPost, and_self]
      · have ef : ((List.range m).filter fun k => (dig s m i).getD k 0 != o.getD k 0).length = farN (dig s m i) o := by
          unfold farN
          rw [hl]
        simp only [↓kPre, kPost, lenD_l, List.length_map, ef, dec_nn, and_self]
    have ea2 : allD [.list (acc.map fun o => .bool (decide (d ≤ farN (dig s m i) o)))] = some (.bool (okG d acc (dig s m i))) := allD_map acc _
    simp only [↓kPre, kPost, ea2]
    cases hok : okG d acc (dig s m i) with
    | true =>
      have es : stepG d acc (dig s m i) = acc ++ [dig s m i] := by
        unfold stepG
        rw [hok, if_pos rfl]
      simp only [↓kPre, kPost]
      refine OpK.of (app_map tN (by omega)) ?_
      simp only [↓kPre, kPost, nx, es]
      exact .inl rfl
    | false =>
      have es : stepG d acc (dig s m i) = acc := by
        unfold stepG
        rw [hok]
        rfl
      simp only [↓kPre, kPost, nx, es]
      exact .inl rfl
  · have : isntD (atW s m (s ^ m)) .none = some (.bool false) := by
      rw [atW, if_neg (by omega)]
      rfl
    simp only [↓kPre, kPost, this, and_self]
  · have : (wdsN s m).take (s ^ m) = wdsN s m := List.take_of_length_le (by omega)
    simp only [↓kPre, kPost, this]
end FW

/-! Q12f: the drawn code. -/
namespace FW
open PySem PySem.Spec L2
open PyProof.Rows hiding St
theorem pickG {α : Type} (enc : α → D) {a : Addr} {k : Int} {ns : List Int} {d : D} {xs : List α} {P : D → Int → List Int → Prop} (hd : d = .list (xs.map enc) ∨ d = .tuple (xs.map enc)) (h : DrawOk ns) (hne : xs ≠ []) (hl : xs.length ≤ 1000000)
    (q : ∀ x ∈ xs, ∀ k' ns', DrawOk ns' → P (enc x) k' ns') : RwK (f__law_pick a k ns [d]) P := by
  refine R_runW ?_
  show Wp b__law_pick [.drw a k ns, .dat d] _
  unfold b__law_pick
  have hlen : lenD [d] = some (.int (xs.length : Nat)) := by
    rcases hd with rfl | rfl
    · rw [lenD_l, List.length_map]
    · rw [lenD_t, List.length_map]
  have hp : 0 < xs.length := List.length_pos_iff.mpr hne
  simp only [↓kPre, kPost, hlen]
  refine RwK_take (n := xs.length) h (by omega) fun r k' ns' hn' hr _ => ?_
  have hr := hr hp
  have hix : ixD d (.int (r : Nat)) = some (enc xs[r]) := by
    have e : (xs.map enc)[r]? = some (enc xs[r]) := by rw [List.getElem?_map, List.getElem?_eq_getElem hr]; rfl
    rcases hd with rfl | rfl
    · exact ixD_l e
    · exact ixD_t e
  simp only [↓kPre, kPost, hix]
  exact ⟨_, _, _, _, rfl, q _ (List.getElem_mem _) k' ns' hn'⟩
theorem IteK_E {α : Type} {b : Bool} {m1 m2 : EM α} {S1 S2 : List Slot} {P : α → List Slot → Prop} (Φ : α → List Slot → Prop) (h1 : b = true → Ep m1 S1 Φ) (h2 : b = false → Ep m2 S2 Φ) (q : ∀ d S', Φ d S' → P d S') : IteK b (EpK m1 S1 P) (EpK m2 S2 P) := by
  cases b with
  | true => exact (h1 rfl).mono q
  | false => exact (h2 rfl).mono q
section
variable {s : Sz}
/-- a drawn word -/
theorem E_word {v w : Nat} {src : EM (List D)} {e : EM D} {S : List Slot} {PL : List D → List Slot → Prop} {a : Addr} {k : Int} {ns : List Int} (n : Nat) (hw : S[w]? = some (.drw a k ns)) (hn : DrawOk ns) (hvw : v ≠ w) (h0 : Ep src S fun ds' S1 => ds' = (List.range n).map nI ∧ S1 = S) (hv : v < S.length) (pl : plainAt [v] S = true) (hs : n ≤ 1000000)
    (he : ∀ i < n, ∀ k ns, DrawOk ns → Ep e ((S.set w (.drw a k ns)).set v (.dat (.int i))) fun y S3 => (∃ r : Nat, y = .int r ∧ r < s.n) ∧ ∃ k' ns', DrawOk ns' ∧ S3 = (S.set w (.drw a k' ns')).set v (.dat (.int i)))
    (q : ∀ (x : List (GF s)) k' ns', DrawOk ns' → x.length = n → PL (x.map gI) (S.set w (.drw a k' ns'))) : Ep (eComp [v] src (gN v) bYes e) S PL := by
  refine E_drawG (gI : GF s → D) (fun _ => True) n hw hn hvw h0 hv pl hs (fun i hi k ns hk => ?_) (fun xs k' ns' hk hl _ => q xs k' ns' hk hl)
  refine (he i hi k ns hk).mono ?_
  rintro y S' ⟨⟨r, rfl, hr⟩, h2⟩
  exact ⟨⟨⟨r, hr⟩, rfl, trivial⟩, h2⟩
theorem app_wid {w : Nat} {A B : List (List (GF s))} (h : ∀ r ∈ A, r.length = w) (h' : ∀ r ∈ B, r.length = w) : ∀ r ∈ A ++ B, r.length = w := fun r hr => by
  rcases List.mem_append.mp hr with hr | hr
  · exact h r hr
  · exact h' r hr
theorem one_wid {w : Nat} {x : List (GF s)} (h : x.length = w) : ∀ r ∈ [x], r.length = w := fun r hr => by
  rw [List.mem_singleton.mp hr]
  exact h
theorem walkLm {A : List (List (GF s))} : walkA (.list (A.map encW)) = some (A.map encW) := rfl
theorem pln_le {w : Nat} {R : List (List (GF s))} {P : List Nat} (h : LA.Pln w R P) : R.length ≤ w := by
  have := LA.frees_len h
  omega
theorem tup_gI {x : List (GF s)} : tupleD [.list (x.map gI)] = some (encW x) := rfl
structure CInv (s : Sz) (w : Nat) where
  many : Nat
  rows : List (List (GF s))
  k : Int
  ns : List Int
  g1 : Option D
  g2 : Option D
  hm : s.n ^ rows.length ≤ many
  hl : s.n ^ rows.length ≤ 260
  hw : ∀ r ∈ rows, r.length = w
  hn : DrawOk ns
theorem law_code_ok {a : Addr} {k : Int} {ns : List Int} {P : D → Int → List Int → Prop} (h : DrawOk ns)
    (q : ∀ (s : Sz) (w : Nat) (R : List (List (GF s))), s.n ≤ 4 → 1 ≤ w → w ≤ 8 → LA.Pln w R (LA.leadsF R) → s.n ^ R.length ≤ 260 → ∀ k' ns', DrawOk ns' → P (.tuple [lawF s.n, codeD s w R]) k' ns') :
    RwK (f__law_code a k ns [.list ([2, 3, 4].map nI), .int 8, .int 260]) P := by
  refine R_runW ?_
  show Wp b__law_code [.drw a k ns, .dat (.list ([2, 3, 4].map nI)), .dat (.int 8), .dat (.int 260), .un, .un, .un, .un, .un, .un, .un] _
  unfold b__law_code
  simp only [↓kPre, kPost]
  refine pickG nI (.inl rfl) h (by decide) (by decide) fun n hn k1 ns1 h1 => ?_
  have hn9 : n ∈ sizesN ∧ n ≤ 4 := by
    simp only [List.mem_cons, List.not_mem_nil, or_false] at hn
    rcases hn with rfl | rfl | rfl <;> exact ⟨by decide, by decide⟩
  simp only [↓kPre, kPost, nI_eq]
  refine RwK_take (n := 8) h1 (by omega) fun r0 k2 ns2 h2 hr0 _ => ?_
  have hr0 := hr0 (by omega)
  obtain ⟨s, es⟩ : ∃ s : Sz, s.n = n := ⟨⟨n, hn9.1⟩, rfl⟩
  obtain ⟨w, ew⟩ : ∃ w : Nat, w = 1 + r0 := ⟨_, rfl⟩
  have ew2 : (1 : Int) + (r0 : Int) = (w : Nat) := by omega
  have hs9 : s.n ≤ 4 := by omega
  subst es
  simp only [↓kPre, kPost, ew2, law_field_eq s.h]
  have e1 : ((w : Nat) : Int) + 1 = ((w + 1 : Nat) : Int) := rfl
  simp only [↓kPre, kPost, e1]
  refine RwK_take (n := w + 1) h2 (by omega) fun turns k3 ns3 h3 ht _ => ?_
  have ht := ht (by omega)
  simp only [↓kPre, kPost, rng1_ok (n := turns) (by omega), list_range]
  refine W_forD (γ := CInv s w) (st := fun c => [.drw a c.k c.ns, .dat (.list ([2, 3, 4].map nI)), .dat (.int 8), .dat (.int 260), .dat (.int s.n), .dat (.int w), .dat (lawF s.n), .own (c.rows.map encW), .dat (.int c.many), gv c.g1, .un]) ⟨1, [], k3, ns3, none, none, by simp, by simp, fun r hr => by simp at hr, h3⟩ (fun d hd c => ?_) (fun c => ?_)
  · refine ⟨_, rfl, ?_⟩
    have em : mulD (.int c.many) (.int s.n) = some (.int (c.many * s.n : Nat)) := by
      rw [mulD_ii (.inr (by omega)), Int.natCast_mul]
    by_cases hq : c.many * s.n ≤ 260
    · have hd1 : decide (((c.many * s.n : Nat) : Int) ≤ 260) = true := by simp only [decide_eq_true_eq]; omega
      simp only [↓kPre, kPost, em, hd1]
      refine E_word (s := s) (w := 0) w rfl c.hn (by decide) ?_ (by simp) (by first | rfl | (simp [plainAt, plain_gv]; done) | (simp [plainAt, plain_gv, plainSlot]; done)) (by omega) (fun i hi k ns hk => ?_) fun x k' ns' hk hx => ?_
      · simp only [↓kPre, kPost, rng1_ok (n := w) (by omega), list_range, and_self]
      · simp only [↓kPre, kPost]
        refine RwK_take (n := s.n) hk (by omega) fun r k' ns' hk' hr _ => ?_
        exact ⟨⟨r, rfl, hr (by have := s.two; omega)⟩, k', ns', hk', rfl⟩
      have hlr : c.rows.length < 100 := by
        have h1 := c.hl
        have h2 : c.rows.length < 2 ^ c.rows.length := Nat.lt_two_pow_self
        have h3 : 2 ^ c.rows.length ≤ s.n ^ c.rows.length := Nat.pow_le_pow_left s.two _
        by_cases hh : c.rows.length < 100
        · exact hh
        · have : 2 ^ 9 ≤ 2 ^ c.rows.length := Nat.pow_le_pow_right (by omega) (by omega)
          omega
      have happ : appD (c.rows.map encW) [encW x] = some (.none, (c.rows ++ [x]).map encW) := app_map encW (by omega)
      simp only [↓kPre, kPost, tup_gI]
      refine OpK.of happ ?_
      simp only [↓kPre, kPost]
      have hp : s.n ^ (c.rows ++ [x]).length ≤ c.many * s.n := by
        rw [List.length_append, List.length_singleton, Nat.pow_succ]
        exact Nat.mul_le_mul_right _ c.hm
      exact ⟨⟨c.many * s.n, c.rows ++ [x], k', ns', some d, none, hp, by omega, app_wid c.hw (one_wid hx), hk⟩, .inl rfl⟩
    · have hd1 : decide (((c.many * s.n : Nat) : Int) ≤ 260) = false := by simp only [decide_eq_false_iff_not]; omega
      simp only [↓kPre, kPost, em, hd1]
      exact ⟨⟨c.many * s.n, c.rows, c.k, c.ns, some d, none, Nat.le_trans c.hm (Nat.le_mul_of_pos_right _ (by have := s.two; omega)), c.hl, c.hw, c.hn⟩, .inl rfl⟩
  · have hlr : c.rows.length < 100 := by
      have h1 := c.hl
      have h3 : 2 ^ c.rows.length ≤ s.n ^ c.rows.length := Nat.pow_le_pow_left s.two _
      by_cases hh : c.rows.length < 100
      · exact hh
      · have : 2 ^ 9 ≤ 2 ^ c.rows.length := Nat.pow_le_pow_right (by omega) (by omega)
        omega
    have e3 := law_plain_eq encW (fun _ => rfl) (walkLm (A := c.rows)) c.hw (by omega) (show w ≤ 1000 by omega)
    have hle := (LA.plainF_ok c.hw).2.2
    simp only [↓kPre, kPost, e3]
    refine ⟨_, _, _, _, rfl, ?_⟩
    exact q s w (LA.plainF w c.rows) hs9 (by omega) (by omega) (LA.plain_pln c.hw) (Nat.le_trans (Nat.pow_le_pow_right (by have := s.two; omega) hle) c.hl) _ _ c.hn
end
/-! ### weights of the words of a code -/
theorem wtV_vals {s : Sz} (x : List (GF s)) : LA.wtV x = ((vals x).filter fun k => k != 0).length := by
  unfold LA.wtV vals
  rw [List.filter_map, List.length_map, List.countP_eq_length_filter]
  congr 1
  refine List.filter_congr fun y _ => ?_
  by_cases h : y = 0
  · subst h
    rfl
  · have : y.val ≠ 0 := fun e => h (val_zero.mp e)
    simp [h, this]
theorem law_weight_eq {s : Sz} {x : List (GF s)} (hl : x.length ≤ 1000000) : f__law_weight [encW x] = .ok (.int (LA.wtV x : Nat)) := by
  refine RsK.eq (R_run2 ?_)
  show Wp b__law_weight [.dat (encW x), .un] _
  unfold b__law_weight
  simp only [↓kPre, kPost]
  refine E_selG gI x (fun a => a != 0) gI ?_ (by simp) (by first | rfl | (simp [plainAt, plain_gv]; done) | (simp [plainAt, plain_gv, plainSlot]; done)) hl (fun a ha => ?_) (fun a ha _ => ?_) ?_
  · simp only [↓kPre, kPost, walkW, and_self]
  · simp only [↓kPre, kPost, neG0, and_self]
  · simp only [↓kPre, kPost, and_self]
  · have e : (x.filter fun a => a != 0).length = LA.wtV x := by
      unfold LA.wtV
      rw [List.countP_eq_length_filter]
      congr 1
    simp only [↓kPre, kPost, lenD_l, List.length_map, e]
section
variable {s : Sz} {w : Nat} {R : List (List (GF s))} {P : List Nat}
def heavy (s : Sz) (w : Nat) (R : List (List (GF s))) : List (List (GF s)) := (LA.wordsW (allG s) w R).filter fun x => decide (0 < LA.wtV x)
theorem wtV_zero {x : List (GF s)} : LA.wtV x = 0 ↔ x = List.replicate x.length 0 := by
  unfold LA.wtV
  rw [List.countP_eq_zero, List.eq_replicate_iff]
  constructor
  · intro h
    refine ⟨rfl, fun b hb => ?_⟩
    have := h b hb
    simpa using this
  · intro h b hb
    have := h.2 b hb
    simp [this]
theorem mix_wt (h : ∀ r ∈ R, r.length = w) (m : List (GF s)) : LA.wtC w R m = LA.wtV (LA.mixW w R m) := by
  rw [LA.wtV_ent, LA.mixW_len]
  unfold LA.wtC
  refine List.countP_congr fun k _ => ?_
  rw [LA.ent_mix h]
theorem heavy_len (h : LA.Pln w R P) : (heavy s w R).length + 1 = s.n ^ R.length := by
  have hn := LA.words_nodup allG_nodup allG_mem h.wid h.ind
  have hl := LA.words_len (E := allG s) (w := w) (R := R)
  rw [allG_len] at hl
  have hz : List.replicate w (0 : GF s) ∈ LA.wordsW (allG s) w R := by
    rw [LA.words_mem allG_mem h.wid]
    refine ⟨by simp, (LA.Spn.zero R).congr fun k => ?_⟩
    unfold LA.ent
    rw [List.getD_eq_getElem?_getD, List.getElem?_replicate]
    split <;> rfl
  have e : heavy s w R = (LA.wordsW (allG s) w R).erase (List.replicate w 0) := by
    rw [hn.erase_eq_filter]
    unfold heavy
    refine List.filter_congr fun x hx => ?_
    have lx := ((LA.words_mem allG_mem h.wid).mp hx).1
    have hx0 : LA.wtV x = 0 ↔ x = List.replicate w 0 := by rw [wtV_zero, lx]
    by_cases e : x = List.replicate w 0
    · rw [hx0.mpr e]
      simp [e]
    · have : 0 < LA.wtV x := by
        have := mt hx0.mp e
        omega
      simp [this, e]
  rw [e, List.length_erase_of_mem hz, hl]
  have : 0 < s.n ^ R.length := Nat.pow_pos (by have := s.two; omega)
  omega
theorem heavy_msg (h : LA.Pln w R P) {m : List (GF s)} (hm : m.length = R.length) (hz : m ≠ List.replicate R.length 0) : LA.mixW w R m ∈ heavy s w R := by
  unfold heavy
  rw [List.mem_filter]
  refine ⟨List.mem_map.mpr ⟨m, (LA.allW_mem allG_mem).mpr hm, rfl⟩, ?_⟩
  apply decide_eq_true
  by_cases e : LA.wtV (LA.mixW w R m) = 0
  · exfalso
    have e2 := wtV_zero.mp e
    rw [LA.mixW_len] at e2
    apply hz
    rw [← h.ind.msg hm]
    rw [List.eq_replicate_iff]
    refine ⟨by rw [List.length_map, h.len], fun b hb => ?_⟩
    obtain ⟨p, hp, rfl⟩ := List.mem_map.mp hb
    rw [← LA.ent_mix h.wid, e2]
    unfold LA.ent
    rw [List.getD_eq_getElem?_getD, List.getElem?_replicate]
    split <;> rfl
  · omega
/-- all bounds of a code -/
theorem code_bounds (h : LA.Pln w R P) (hs : s.n ≤ 4) (hw : w ≤ 8) (hR : R ≠ []) {d : Nat} (hd : ∀ x ∈ heavy s w R, d ≤ LA.wtV x) (hd1 : 1 ≤ d) (hd2 : d ≤ w) : keepsB w s.n d (s.n ^ R.length) = true ∧ LA.shF s.n R.length d ≤ w := by
  have hdm : ∀ m : List (GF s), m.length = R.length → m ≠ List.replicate R.length 0 → d ≤ LA.wtC w R m := fun m hm hz => by
    rw [mix_wt h.wid]
    exact hd _ (heavy_msg h hm hz)
  have b1 := LA.spheres_le allG_nodup allG_mem h hdm (t := (d - 1) / 2) (by omega)
  rw [allG_len] at b1
  have b2 : ∀ j, j ≤ R.length → s.n * ((s.n ^ j - 1) * d) ≤ (w - (R.length - j)) * ((s.n - 1) * s.n ^ j) := fun j hj => by
    have := LA.rows_le allG_nodup allG_mem h hdm hj
    rwa [allG_len] at this
  have hn := pln_le h
  have hn0 : R.length ≠ 0 := fun e => hR (List.length_eq_zero_iff.mp e)
  have h2 := s.two
  have hall := LA.fin_all
  rw [List.all_eq_true] at hall
  have h1 := hall s.n (by
    have : s.n = 2 ∨ s.n = 3 ∨ s.n = 4 := by omega
    rcases this with e | e | e <;> rw [e] <;> decide)
  rw [List.all_eq_true] at h1
  have h3 := h1 w (List.mem_range.mpr (by omega))
  rw [List.all_eq_true] at h3
  have h4 := h3 R.length (List.mem_range.mpr (by omega))
  rw [List.all_eq_true] at h4
  have h5 := h4 d (List.mem_range.mpr (by omega))
  rw [decide_eq_false hn0, decide_eq_false (show ¬ d = 0 by omega), Bool.false_or, Bool.false_or] at h5
  unfold LA.finOk at h5
  have a1 : ((List.range (R.length + 1)).all fun j => decide (s.n * ((s.n ^ j - 1) * d) ≤ (w - (R.length - j)) * ((s.n - 1) * s.n ^ j))) = true := by
    rw [List.all_eq_true]
    intro j hj
    exact decide_eq_true (b2 j (by have := List.mem_range.mp hj; omega))
  rw [a1, decide_eq_true b1] at h5
  simp only [Bool.not_true, Bool.false_or, Bool.and_eq_true, Bool.or_eq_true, decide_eq_true_eq] at h5
  obtain ⟨⟨k1, k2⟩, k3⟩ := h5
  refine ⟨?_, k3⟩
  unfold keepsB
  rw [Bool.and_eq_true, Bool.and_eq_true]
  refine ⟨decide_eq_true ?_, decide_eq_true k1, ?_⟩
  · unfold sphN
    rw [Nat.le_div_iff_mul_le (ball_pos _ _ _)]
    exact b1
  · unfold smsB smsO
    split
    · rfl
    · rename_i k e
      split at e
      · cases e
        rcases k2 with k2 | k2
        · omega
        · exact decide_eq_true k2
      · cases e
end
end FW

/-! Q12g: the law, from behind. -/
namespace FW
open PySem PySem.Spec L2
open PyProof.Rows hiding St
def b_try : SM := sSeq (sTry "Great" 24 (sSeq (sExpr (eCallX 3 (f_greedy) (aCons (eC (.int 2)) (aCons (eC (.int 13)) (aCons (eC (.int 3)) (aNil)))))) (sSeq (sRet (eC (.bool false))) (sNx))) (gCmp "limit" "words")) (sNx)
def b_code : SM := sSeq (sAsg (eCallW 1 4 f__law_code (aCons (eLst (aCons (eC (.int 2)) (aCons (eC (.int 3)) (aCons (eC (.int 4)) (aNil))))) (aCons (eC (.int 8)) (aCons (eC (.int 260)) (aNil))))) (gT (gsCons (gN 20) (gsCons (gN 21) (gsNil))) 2)) (sSeq (sDat 22 (eComp [19] (iA (eCall 2 (f__law_all) (aCons (eV 20) (aCons (eV 21) (aNil))))) (gN 19) (bOf (eBin gtD (eCall 1 (f__law_weight) (aCons (eV 19) (aNil))) (eC (.int 0)))) (eV 19))) (sSeq (sIf (bOf (eBin gtD (eB lenD (aCons (eV 22) (aNil))) (eC (.int 0)))) (sSeq (sSet 23 (eB minD (aCons (eFz (eComp [19] (iA (eV 22)) (gN 19) (bYes) (eCall 1 (f__law_weight) (aCons (eV 19) (aNil))))) (aNil)))) (sSeq (sIf (bOr (bOf (eBin isntD (eCall 4 (f_fits_bounds) (aCons (eIx (eV 21) (eC (.int 2))) (aCons (eIx (eV 21) (eC (.int 1))) (aCons (eV 23) (aCons (eBin addD (eB lenD (aCons (eV 22) (aNil))) (eC (.int 1))) (aNil)))))) (eC (.bool true)))) (bOf (eBin gtD (eCall 3 (f_shortest) (aCons (eIx (eV 21) (eC (.int 1))) (aCons (eB lenD (aCons (eIx (eV 21) (eC (.int 3))) (aNil))) (aCons (eV 23) (aNil))))) (eIx (eV 21) (eC (.int 2)))))) (sSeq (sRet (eC (.bool false))) (sNx)) (sNx)) (sNx))) (sNx)) b_try))
def b_gre : SM := sSeq (sAsg (eTup (aCons (eBin addD (eC (.int 1)) (eCallW 1 2 f__law_take (aCons (eC (.int 6)) (aNil)))) (aCons (eBin addD (eC (.int 1)) (eCallW 1 2 f__law_take (aCons (eC (.int 4)) (aNil)))) (aNil)))) (gT (gsCons (gN 15) (gsCons (gN 16) (gsNil))) 2)) (sSeq (sSet 17 (eCallW 1 2 f__law_pick (aCons (eLst (aCons (eC (.int 2)) (aCons (eC (.int 3)) (aNil)))) (aNil)))) (sSeq (sIf (bAnd (bOf (eBin leD (eV 16) (eV 15))) (bOf (eBin ltD (eCall 2 (f__law_power) (aCons (eV 17) (aCons (eV 15) (aNil)))) (eC (.int 300))))) (sSeq (sOwn 18 (eBind (aNil) fun ds => if small ds.length then eRet ds else fun _ => .bad)) (sSeq (sFor (iA (eCall 2 (f__law_words) (aCons (eV 17) (aCons (eV 15) (aNil))))) (gN 19) (sSeq (sIf (bOf (eBin eqD (eB lenD (aCons (eFz (eCompO [26] 18 (gN 26) (bOf (eBin ltD (eCall 2 (f__law_far) (aCons (eV 19) (aCons (eV 26) (aNil)))) (eV 16))) (eV 26))) (aNil))) (eC (.int 0)))) (sSeq (sExpr (eMut 18 appD (aCons (eV 19) (aNil)))) (sNx)) (sNx)) (sNx))) (sSeq (sIf (bOr (bOf (eBin neD (eCallX 3 (f_greedy) (aCons (eV 17) (aCons (eV 15) (aCons (eV 16) (aNil))))) (eVO 18))) (bOr (bNot (bOf (eCall 4 (f__law_keeps) (aCons (eV 15) (aCons (eV 17) (aCons (eV 16) (aCons (eBO lenD 18) (aNil)))))))) (bOf (eBin ltD (eBO lenD 18) (eCall 3 (f_surely) (aCons (eV 15) (aCons (eV 17) (aCons (eV 16) (aNil))))))))) (sSeq (sRet (eC (.bool false))) (sNx)) (sNx)) (sNx)))) (sNx)) b_code))
def b_sr : SM := sSeq (sSet 14 (eC (.int 0))) (sSeq (sFor (iR1 (aCons (eV 3) (aNil))) (gN 12) (sSeq (sSet 5 (eB sumD (aCons (eFz (eComp [25] (iR1 (aCons (eBin subD (eV 4) (eC (.int 1))) (aNil))) (gN 25) (bYes) (eBin mulD (eCall 2 (f__law_choose) (aCons (eBin subD (eV 3) (eC (.int 1))) (aCons (eV 25) (aNil)))) (eCall 2 (f__law_power) (aCons (eBin subD (eV 2) (eC (.int 1))) (aCons (eV 25) (aNil))))))) (aNil)))) (sSeq (sSet 14 (eIf (bAnd (bOf (eBin geD (eV 5) (eCall 2 (f__law_power) (aCons (eV 2) (aCons (eV 14) (aNil)))))) (bAnd (bOf (eBin gtD (eV 4) (eC (.int 1)))) (bOf (eBin eqD (eV 14) (eV 12))))) (eBin addD (eV 14) (eC (.int 1))) (eV 14))) (sNx)))) (sSeq (sIf (bOf (eBin neD (eCall 3 (f_surely_rows) (aCons (eV 3) (aCons (eV 2) (aCons (eV 4) (aNil))))) (eBin subD (eV 3) (eV 14)))) (sSeq (sRet (eC (.bool false))) (sNx)) (sNx)) b_gre))
def b_sur : SM := sSeq (sSet 13 (eCall 3 (f__law_ball) (aCons (eV 3) (aCons (eV 2) (aCons (eBin subD (eV 4) (eC (.int 1))) (aNil)))))) (sSeq (sIf (bOf (eBin neD (eCall 3 (f_surely) (aCons (eV 3) (aCons (eV 2) (aCons (eV 4) (aNil))))) (eBin addD (eBin fdivD (eCall 2 (f__law_power) (aCons (eV 2) (aCons (eV 3) (aNil)))) (eV 13)) (eIf (bOf (eBin gtD (eBin modD (eB intD (aCons (eCall 2 (f__law_power) (aCons (eV 2) (aCons (eV 3) (aNil)))) (aNil))) (eV 13)) (eC (.int 0)))) (eC (.int 1)) (eC (.int 0)))))) (sSeq (sRet (eC (.bool false))) (sNx)) (sNx)) b_sr)
def b_sho : SM := sSeq (sPar3 9 10 11 (aCons (eBin addD (eC (.int 1)) (eCallW 1 2 f__law_take (aCons (eC (.int 5)) (aNil)))) (aCons (eC (.int 0)) (aCons (eC (.int 1)) (aNil))))) (sSeq (sFor (iR1 (aCons (eV 9) (aNil))) (gN 12) (sSeq (sPar 10 11 (aCons (eBin addD (eBin addD (eV 10) (eBin fdivD (eV 4) (eV 11))) (eIf (bOf (eBin gtD (eBin modD (eB intD (aCons (eV 4) (aNil))) (eV 11)) (eC (.int 0)))) (eC (.int 1)) (eC (.int 0)))) (aCons (eBin mulD (eV 11) (eV 2)) (aNil)))) (sNx))) (sSeq (sIf (bOf (eBin neD (eCall 3 (f_shortest) (aCons (eV 2) (aCons (eV 9) (aCons (eV 4) (aNil))))) (eV 10))) (sSeq (sRet (eC (.bool false))) (sNx)) (sNx)) b_sur))
def b_fit : SM := sSeq (sSet 7 (eCallW 1 2 f__law_take (aCons (eBin addD (eV 3) (eC (.int 1))) (aNil)))) (sSeq (sIf (bOf (eBin neD (eCall 3 (f_ball) (aCons (eV 3) (aCons (eV 2) (aCons (eV 7) (aNil))))) (eCall 3 (f__law_ball) (aCons (eV 3) (aCons (eV 2) (aCons (eV 7) (aNil))))))) (sSeq (sRet (eC (.bool false))) (sNx)) (sNx)) (sSeq (sSet 8 (eCallW 1 2 f__law_pick (aCons (eLst (aCons (eC (.int 1)) (aCons (eC (.int 2)) (aCons (eV 6) (aCons (eBin addD (eV 6) (eC (.int 1))) (aCons (eCall 2 (f__law_power) (aCons (eV 2) (aCons (eBin addD (eBin subD (eV 3) (eV 4)) (eC (.int 1))) (aNil)))) (aCons (eBin addD (eCall 2 (f__law_power) (aCons (eV 2) (aCons (eBin addD (eBin subD (eV 3) (eV 4)) (eC (.int 1))) (aNil)))) (eC (.int 1))) (aCons (eCallW 1 2 f__law_take (aCons (eC (.int 300)) (aNil))) (aNil))))))))) (aNil)))) (sSeq (sIf (bOf (eBin neD (eCall 4 (f_fits_bounds) (aCons (eV 3) (aCons (eV 2) (aCons (eV 4) (aCons (eV 8) (aNil)))))) (eCall 4 (f__law_keeps) (aCons (eV 3) (aCons (eV 2) (aCons (eV 4) (aCons (eV 8) (aNil)))))))) (sSeq (sRet (eC (.bool false))) (sNx)) (sNx)) b_sho)))
theorem law_split : b_law = sSeq (sAsg (eTup (aCons (eCallW 1 2 f__law_pick (aCons (eLst (aCons (eC (.int 2)) (aCons (eC (.int 2)) (aCons (eC (.int 3)) (aCons (eC (.int 4)) (aCons (eC (.int 5)) (aNil))))))) (aNil))) (aCons (eBin addD (eC (.int 1)) (eCallW 1 2 f__law_take (aCons (eC (.int 12)) (aNil)))) (aNil)))) (gT (gsCons (gN 2) (gsCons (gN 3) (gsNil))) 2)) (sSeq (sSet 4 (eBin addD (eC (.int 1)) (eCallW 1 2 f__law_take (aCons (eV 3) (aNil))))) (sSeq (sSet 5 (eCall 3 (f_all_bounds) (aCons (eV 3) (aCons (eV 2) (aCons (eV 4) (aNil)))))) (sSeq (sSet 6 (eBin fdivD (eCall 2 (f__law_power) (aCons (eV 2) (aCons (eV 3) (aNil)))) (eCall 3 (f__law_ball) (aCons (eV 3) (aCons (eV 2) (aCons (eBin fdivD (eBin subD (eV 4) (eC (.int 1))) (eC (.int 2))) (aNil))))))) (sSeq (sIf (bOr (bOf (eBin neD (eCall 3 (f_by_spheres) (aCons (eV 3) (aCons (eV 2) (aCons (eV 4) (aNil))))) (eV 6))) (bOr (bOf (eBin neD (eCall 3 (f_by_places) (aCons (eV 3) (aCons (eV 2) (aCons (eV 4) (aNil))))) (eCall 2 (f__law_power) (aCons (eV 2) (aCons (eBin addD (eBin subD (eV 3) (eV 4)) (eC (.int 1))) (aNil)))))) (bOf (eBin neD (eCall 3 (f_by_sums) (aCons (eV 3) (aCons (eV 2) (aCons (eV 4) (aNil))))) (eCall 3 (f__law_sums) (aCons (eV 3) (aCons (eV 2) (aCons (eV 4) (aNil))))))))) (sSeq (sRet (eC (.bool false))) (sNx)) (sNx)) (sSeq (sIf (bOf (eBin neX (eV 5) (eFzM false (eDisp false [(eC (.str "spheres"), eV 6), (eC (.str "places"), eCall 2 (f__law_power) (aCons (eV 2) (aCons (eBin addD (eBin subD (eV 3) (eV 4)) (eC (.int 1))) (aNil)))), (eC (.str "sums"), eCall 3 (f__law_sums) (aCons (eV 3) (aCons (eV 2) (aCons (eV 4) (aNil)))))])))) (sSeq (sRet (eC (.bool false))) (sNx)) (sNx)) b_fit))))) := rfl
theorem try_eq {a : Addr} {k : Int} {ns : List Int} {g2 g3 g4 g5 g6 g7 g8 g9 g10 g11 g12 g13 g14 g15 g16 g17 g18 g19 g20 g21 g22 g23 : Slot} : b_try [.un, .drw a k ns, g2, g3, g4, g5, g6, g7, g8, g9, g10, g11, g12, g13, g14, g15, g16, g17, g18, g19, g20, g21, g22, g23, .un, .un, .un] = .rt (.bool true) [.un, .drw a k ns, g2, g3, g4, g5, g6, g7, g8, g9, g10, g11, g12, g13, g14, g15, g16, g17, g18, g19, g20, g21, g22, g23, .un, .un, .un] := by kernel_rfl
theorem try_ok {a : Addr} {k : Int} {ns : List Int} {g2 g3 g4 g5 g6 g7 g8 g9 g10 g11 g12 g13 g14 g15 g16 g17 g18 g19 g20 g21 g22 g23 : Slot} : Wp b_try [.un, .drw a k ns, g2, g3, g4, g5, g6, g7, g8, g9, g10, g11, g12, g13, g14, g15, g16, g17, g18, g19, g20, g21, g22, g23, .un, .un, .un] fun o => ∃ S, o = .rt (.bool true) S := by
  unfold Wp
  rw [try_eq]
  exact ⟨rfl, _, rfl⟩
theorem min_facts {α : Type} {f : α → Nat} : ∀ {xs : List α}, xs ≠ [] → ∃ d : Nat, minD [.list (xs.map fun x => .int (f x : Nat))] = some (.int (d : Nat)) ∧ (∃ x ∈ xs, d = f x) ∧ ∀ x ∈ xs, d ≤ f x
  | [], h => absurd rfl h
  | x :: xs, _ => by
    have hf : ∀ (ys : List α) (n : Nat), ∃ d : Nat, ((ys.map fun y => ((f y : Nat) : Int)).foldl (fun a b => if b < a then b else a) (n : Int)) = (d : Nat) ∧ (d = n ∨ ∃ y ∈ ys, d = f y) ∧ d ≤ n ∧ ∀ y ∈ ys, d ≤ f y := fun ys => by
      induction ys with
      | nil => exact fun n => ⟨n, rfl, .inl rfl, Nat.le_refl _, fun y h => nomatch h⟩
      | cons y ys ih =>
        intro n
        rw [List.map_cons, List.foldl_cons]
        by_cases h : ((f y : Nat) : Int) < (n : Nat)
        · rw [if_pos h]
          obtain ⟨d, e, o, l, m⟩ := ih (f y)
          refine ⟨d, e, .inr ?_, by omega, fun z hz => ?_⟩
          · rcases o with o | ⟨z, hz, o⟩
            · exact ⟨y, List.mem_cons_self, o⟩
            · exact ⟨z, List.mem_cons_of_mem _ hz, o⟩
          · rcases List.mem_cons.mp hz with rfl | hz
            · exact l
            · exact m z hz
        · rw [if_neg h]
          obtain ⟨d, e, o, l, m⟩ := ih n
          refine ⟨d, e, ?_, l, fun z hz => ?_⟩
          · rcases o with o | ⟨z, hz, o⟩
            · exact .inl o
            · exact .inr ⟨z, List.mem_cons_of_mem _ hz, o⟩
          · rcases List.mem_cons.mp hz with rfl | hz
            · omega
            · exact m z hz
    obtain ⟨d, e, o, l, m⟩ := hf xs (f x)
    refine ⟨d, ?_, ?_, fun y hy => ?_⟩
    · have e2 : (x :: xs).map (fun x => PyData.int (f x : Nat)) = ((x :: xs).map fun x => ((f x : Nat) : Int)).map PyData.int := by
        rw [List.map_map]
        rfl
      rw [e2]
      show ((allI (((x :: xs).map fun x => ((f x : Nat) : Int)).map PyData.int)).bind minI).map PyData.int = _
      rw [allI_map]
      show some (PyData.int ((xs.map fun x => ((f x : Nat) : Int)).foldl (fun a b => if b < a then b else a) (f x : Nat))) = _
      rw [e]
    · rcases o with o | ⟨z, hz, o⟩
      · exact ⟨x, List.mem_cons_self, o⟩
      · exact ⟨z, List.mem_cons_of_mem _ hz, o⟩
    · rcases List.mem_cons.mp hy with rfl | hy
      · exact l
      · exact m y hy
set_option maxHeartbeats 1000000 in
theorem code_ok {a : Addr} {k : Int} {ns : List Int} {g2 g3 g4 g5 g6 g7 g8 g9 g10 g11 g12 g13 g14 g15 g16 g17 g18 : Slot} {c : Option D} (hn : DrawOk ns) : Wp b_code [.un, .drw a k ns, g2, g3, g4, g5, g6, g7, g8, g9, g10, g11, g12, g13, g14, g15, g16, g17, g18, gv c, .un, .un, .un, .un, .un, .un, .un] fun o => ∃ S, o = .rt (.bool true) S := by
  unfold b_code
  simp only [↓kPre, kPost]
  refine law_code_ok hn fun s w R hs4 h1 h8 hP hq k1 ns1 n1 => ?_
  have h2 := s.two
  have hRl := pln_le hP
  simp only [↓kPre, kPost]
  refine E_selG encW (LA.wordsW (allG s) w R) (fun x => decide (0 < LA.wtV x)) encW ?_ (by simp) (by first | rfl | (simp [plainAt, plain_gv]; done) | (simp [plainAt, plain_gv, plainSlot]; done)) (by rw [LA.words_len, allG_len]; omega) (fun x hx => ?_) (fun x hx _ => ?_) ?_
  · simp only [↓kPre, kPost, law_all_eq hP.wid (show s.n ^ R.length ≤ 100000 by omega) (by omega) (show w ≤ 1000 by omega), walk_l, and_self]
  · have lx := ((LA.words_mem allG_mem hP.wid).mp hx).1
    have e : decide ((0 : Int) < (LA.wtV x : Nat)) = decide (0 < LA.wtV x) := by
      rw [decide_eq_decide]
      omega
    simp only [↓kPre, kPost, law_weight_eq (x := x) (by omega), e, and_self]
  · simp only [↓kPre, kPost, and_self]
  · have hl := heavy_len hP
    obtain ⟨F, eF⟩ : ∃ F, F = heavy s w R := ⟨_, rfl⟩
    have eF2 : (LA.wordsW (allG s) w R).filter (fun x => decide (0 < LA.wtV x)) = F := eF.symm
    rw [eF2]
    rw [← eF] at hl
    simp only [↓kPre, kPost, lenD_l, List.length_map]
    by_cases hF : F = []
    · have e : decide ((0 : Int) < ((F.length : Nat) : Int)) = false := by
        rw [hF]
        rfl
      simp only [↓kPre, kPost, e]
      exact try_ok
    · have hF0 : 0 < F.length := List.length_pos_iff.mpr hF
      have e : decide ((0 : Int) < ((F.length : Nat) : Int)) = true := decide_eq_true (by omega)
      have hR : R ≠ [] := fun e => by
        rw [e] at hl
        simp at hl
        exact hF hl
      obtain ⟨d, ed, ⟨x0, hx0, hd0⟩, hdm⟩ := min_facts (f := LA.wtV) hF
      have hx1 : ∀ x ∈ F, x.length = w ∧ 0 < LA.wtV x := fun x hx => by
        rw [eF] at hx
        unfold heavy at hx
        obtain ⟨m1, m2⟩ := List.mem_filter.mp hx
        exact ⟨((LA.words_mem allG_mem hP.wid).mp m1).1, of_decide_eq_true m2⟩
      have hd1 : 1 ≤ d := by
        have := (hx1 x0 hx0).2
        omega
      have hd2 : d ≤ w := by
        have l1 := (hx1 x0 hx0).1
        have l2 := LA.wtV_le x0
        omega
      obtain ⟨k1, k2⟩ := code_bounds hP hs4 h8 hR (d := d) (fun x hx => hdm x (by rw [eF]; exact hx)) hd1 hd2
      simp only [↓kPre, kPost, e]
      refine E_mapG encW F (fun x => .int (LA.wtV x : Nat)) ?_ (by simp) (by first | rfl | (simp [plainAt, plain_gv]; done) | (simp [plainAt, plain_gv, plainSlot]; done)) (by omega) (fun x hx => ?_) ?_
      · simp only [↓kPre, kPost, walk_l, and_self]
      · simp only [↓kPre, kPost, law_weight_eq (x := x) (by have := (hx1 x hx).1; omega), and_self]
      have e1 : ((F.length : Nat) : Int) + 1 = ((s.n ^ R.length : Nat) : Int) := by omega
      have e2 : isntD (.bool true) (.bool true) = some (.bool false) := rfl
      have e3 : decide (((w : Nat) : Int) < (LA.shF s.n R.length d : Nat)) = false := decide_eq_false (by omega)
      simp only [↓kPre, kPost, ed, lenD_l, List.length_map, code_1, code_2, code_3, lenRT, e1, fits_eq (n := w) (s := s.n) (d := d) (by omega) (by omega) (by omega) hd1 (by omega) hd2 (m := s.n ^ R.length), k1, e2, shortest_eq (s := s.n) (r := R.length) (d := d) (by omega) (by omega) (by omega), e3]
      exact try_ok
end FW

/-! Q12n: chosen words keep the bounds. -/
namespace FW
open PySem PySem.Spec L2
open PyProof.Rows hiding St
def finG (s m d : Nat) : Bool := decide (m = 0) || decide (d = 0) || decide (m < d) || decide (300 ≤ s ^ m) || (keepsB m s d (grN d (wdsN s m)).length && decide (surN m s d ≤ (grN d (wdsN s m)).length))
theorem fin_2 : ((List.range 6).all fun m => (List.range 5).all fun d => finG 2 m d) = true := by decide +kernel
theorem fin_2b : ((List.range 5).all fun d => finG 2 6 d) = true := by decide +kernel
theorem fin_3 : ((List.range 5).all fun m => (List.range 5).all fun d => finG 3 m d) = true := by decide +kernel
theorem fin_3b : finG 3 5 1 = true := by decide +kernel
theorem fin_3c : ([0, 2, 3, 4].all fun d => finG 3 5 d) = true := by decide +kernel
theorem fin_gre_at {s m d : Nat} (hs : s = 2 ∨ s = 3) (h1 : 1 ≤ m) (h6 : m ≤ 6) (h2 : 1 ≤ d) (h4 : d ≤ 4) (hd : d ≤ m) (hp : s ^ m < 300) : keepsB m s d (grN d (wdsN s m)).length = true ∧ surN m s d ≤ (grN d (wdsN s m)).length := by
  have c : finG s m d = true := by
    rcases hs with rfl | rfl
    · by_cases e : m = 6
      · subst e
        exact List.all_eq_true.mp fin_2b d (List.mem_range.mpr (by omega))
      · exact List.all_eq_true.mp (List.all_eq_true.mp fin_2 m (List.mem_range.mpr (by omega))) d (List.mem_range.mpr (by omega))
    · by_cases e : m = 6
      · subst e
        exact absurd hp (by decide)
      · by_cases e5 : m = 5
        · subst e5
          by_cases e1 : d = 1
          · subst e1
            exact fin_3b
          · exact List.all_eq_true.mp fin_3c d (by
              have : d = 2 ∨ d = 3 ∨ d = 4 := by omega
              rcases this with rfl | rfl | rfl <;> decide)
        · exact List.all_eq_true.mp (List.all_eq_true.mp fin_3 m (List.mem_range.mpr (by omega))) d (List.mem_range.mpr (by omega))
  unfold finG at c
  rw [decide_eq_false (show ¬ m = 0 by omega), decide_eq_false (show ¬ d = 0 by omega), decide_eq_false (show ¬ m < d by omega), decide_eq_false (show ¬ 300 ≤ s ^ m by omega)] at c
  simpa using c
theorem callX_of {S : List Slot} {PD : D → List Slot → Prop} {m : Nat} {g : List D → Rs} {fa : EM (List D)} (h : Ep fa S fun ds S1 => ds.length = m ∧ ∃ d, g ds = .ok d ∧ PD d S1) : EpK (eCallX m g fa) S PD := by
  obtain ⟨ds, S1, e, hl, d, eg, p⟩ := h
  refine ⟨d, S1, ?_, p⟩
  unfold eCallX eBind
  rw [e]
  simp only [hl, if_true, eg]
  rfl
theorem ok_len (d : Nat) (acc : List (List Nat)) (w : List Nat) : decide ((((acc.filter fun o => decide (farN w o < d)).length : Nat) : Int) = 0) = okG d acc w := by
  unfold okG
  induction acc with
  | nil => rfl
  | cons x acc ih =>
    rw [List.all_cons, ← ih]
    by_cases h : farN w x < d
    · have e : decide (d ≤ farN w x) = false := decide_eq_false (by omega)
      rw [List.filter_cons_of_pos (p := fun o => decide (farN w o < d)) (decide_eq_true h), e, Bool.false_and]
      simp
      omega
    · have e : decide (d ≤ farN w x) = true := decide_eq_true (by omega)
      rw [List.filter_cons_of_neg (p := fun o => decide (farN w o < d)) (by rw [decide_eq_false h]; decide), e, Bool.true_and]
theorem neW (ws : List (List Nat)) : neD (.list (ws.map tN)) (.list (ws.map tN)) = some (.bool false) := by
  have nd : ∀ w : List Nat, noDict (tN w) = true ∧ shal 7 (tN w) = true := fun w => by
    constructor
    · show noDictA (w.map nI) = true
      rw [noDictA_all, List.all_eq_true]
      intro d hd
      obtain ⟨x, _, rfl⟩ := List.mem_map.mp hd
      rfl
    · show (w.map nI).all (shal 6) = true
      rw [List.all_eq_true]
      intro d hd
      obtain ⟨x, _, rfl⟩ := List.mem_map.mp hd
      rfl
  refine neD_self ?_ ?_
  · show noDictA _ = true
    rw [noDictA_all, List.all_eq_true]
    intro d hd
    obtain ⟨w, _, rfl⟩ := List.mem_map.mp hd
    exact (nd w).1
  · show (ws.map tN).all (shal 7) = true
    rw [List.all_eq_true]
    intro d hd
    obtain ⟨w, _, rfl⟩ := List.mem_map.mp hd
    exact (nd w).2
set_option maxHeartbeats 1000000 in
theorem gre_ok {a : Addr} {k : Int} {ns : List Int} {g2 g3 g4 g5 g6 g7 g8 g9 g10 g11 g12 g13 g14 : Slot} (hn : DrawOk ns) : Wp b_gre [.un, .drw a k ns, g2, g3, g4, g5, g6, g7, g8, g9, g10, g11, g12, g13, g14, .un, .un, .un, .un, .un, .un, .un, .un, .un, .un, .un, .un] fun o => ∃ S, o = .rt (.bool true) S := by
  unfold b_gre
  simp only [↓kPre, kPost]
  refine RwK_take (n := 6) hn (by omega) fun r k1 ns1 n1 hr _ => ?_
  have hr := hr (by omega)
  simp only [↓kPre, kPost]
  refine RwK_take (n := 4) n1 (by omega) fun r2 k2 ns2 n2 hr2 _ => ?_
  have hr2 := hr2 (by omega)
  obtain ⟨m, em⟩ : ∃ m, m = 1 + r := ⟨_, rfl⟩
  obtain ⟨d, ed⟩ : ∃ d, d = 1 + r2 := ⟨_, rfl⟩
  have em2 : (1 : Int) + (r : Nat) = (m : Nat) := by omega
  have ed2 : (1 : Int) + (r2 : Nat) = (d : Nat) := by omega
  simp only [↓kPre, kPost, em2, ed2]
  refine pickG nI (xs := [2, 3]) (.inl rfl) n2 (by decide) (by decide) fun n hn2 k3 ns3 n3 => ?_
  have hs : n = 2 ∨ n = 3 := by simpa using hn2
  simp only [↓kPre, kPost, nI_eq, dec_nn]
  by_cases c1 : d ≤ m
  · have e1 : decide (d ≤ m) = true := decide_eq_true c1
    simp only [↓kPre, kPost, e1, lpow_eq (b := n) (k := m) (by omega) (by omega)]
    by_cases c2 : n ^ m < 300
    · have e2 : decide (((n ^ m : Nat) : Int) < 300) = true := decide_eq_true (by omega)
      obtain ⟨s, es⟩ : ∃ s : Sz, s.n = n := ⟨⟨n, by rcases hs with rfl | rfl <;> decide⟩, rfl⟩
      subst es
      obtain ⟨f1, f2⟩ := fin_gre_at hs (show 1 ≤ m by omega) (by omega) (show 1 ≤ d by omega) (by omega) c1 c2
      have hlen : (wdsN s.n m).length = s.n ^ m := by simp [wdsN]
      have hmem : ∀ w ∈ wdsN s.n m, w.length = m := fun w hw => by
        obtain ⟨j, _, rfl⟩ := List.mem_map.mp hw
        exact dig_len s.n m j
      simp only [↓kPre, kPost, e2, law_wordsN (s := s) (m := m) (by omega) (by omega), walk_l]
      refine W_forX tN (wdsN s.n m) (st := fun i (c : Option D) => [.un, .drw a k3 ns3, g2, g3, g4, g5, g6, g7, g8, g9, g10, g11, g12, g13, g14, .dat (.int m), .dat (.int d), .dat (.int s.n), .own ((grN d ((wdsN s.n m).take i)).map tN), gv c, .un, .un, .un, .un, .un, .un, .un]) none (fun i w hi c => ?_) (fun c => ?_)
      · refine ⟨_, rfl, ?_⟩
        have lw := hmem w (List.mem_of_getElem? hi)
        have e3 := grN_snoc d ((wdsN s.n m).take i) w
        rw [← take_snoc hi] at e3
        obtain ⟨g1, g2'⟩ := grN_sub d ((wdsN s.n m).take i)
        have g1 : (grN d ((wdsN s.n m).take i)).length ≤ 300 := by
          rw [List.length_take] at g1
          omega
        have g2' : ∀ x ∈ grN d ((wdsN s.n m).take i), x.length = m := fun x hx => hmem x (List.mem_of_mem_take (g2' x hx))
        rw [e3]
        obtain ⟨acc, ea⟩ : ∃ acc, acc = grN d ((wdsN s.n m).take i) := ⟨_, rfl⟩
        rw [← ea] at g1 g2' ⊢
        simp only [↓kPre, kPost]
        refine E_selO tN acc (fun o => decide (farN w o < d)) tN rfl (by decide) (by simp) (by first | rfl | (simp [plainAt, plain_gv]; done) | (simp [plainAt, plain_gv, plainSlot]; done)) (by omega) (fun o ho => ?_) (fun o ho _ => ?_) ?_
        · have lo := g2' o ho
          simp only [↓kPre, kPost, law_far_eq (r := w) (w := o) (by omega) (by omega), dec_lt, and_self]
        · simp only [↓kPre, kPost, and_self]
        · simp only [↓kPre, kPost, lenD_l, List.length_map, ok_len]
          cases hok : okG d acc w with
          | true =>
            have es : stepG d acc w = acc ++ [w] := by
              unfold stepG
              rw [hok, if_pos rfl]
            simp only [↓kPre, kPost]
            refine OpK.of (app_map tN (by omega)) ?_
            simp only [↓kPre, kPost, es]
            exact ⟨some _, .inl rfl⟩
          | false =>
            have es : stepG d acc w = acc := by
              unfold stepG
              rw [hok]
              rfl
            simp only [↓kPre, kPost, es]
            exact ⟨some _, .inl rfl⟩
      · have tk : (wdsN s.n m).take (wdsN s.n m).length = wdsN s.n m := List.take_length
        have hg := greedy_eq (s := s.n) (m := m) (d := d) (by omega) (by omega) (by omega) (by omega)
        simp only [↓kPre, kPost, tk]
        refine callX_of ?_
        simp only [↓kPre, kPost]
        refine ⟨trivial, _, hg, ?_⟩
        have hk := keeps_eq (n := m) (s := s.n) (d := d) (by omega) (by omega) (by omega) (by omega) (by omega) c1 (m := (grN d (wdsN s.n m)).length)
        have hsu := surely_eq (n := m) (s := s.n) (d := d) (by omega) (by omega) (by omega) (by omega) (by omega)
        have e7 : decide ((((grN d (wdsN s.n m)).length : Nat) : Int) < (surN m s.n d : Nat)) = false := decide_eq_false (by omega)
        simp only [↓kPre, kPost, neW, lenD_l, List.length_map, hk, f1, hsu, e7]
        exact code_ok n3
    · have e2 : decide (((n ^ m : Nat) : Int) < 300) = false := decide_eq_false (by omega)
      simp only [↓kPre, kPost, e2]
      exact code_ok (c := none) n3
  · have e1 : decide (d ≤ m) = false := decide_eq_false c1
    simp only [↓kPre, kPost, e1]
    exact code_ok (c := none) n3
end FW

/-! Q12h: the law. -/
namespace FW
open PySem PySem.Spec L2
open PyProof.Rows hiding St
theorem mod_nn {a b : Nat} (h : 0 < b) : modD (.int (a : Nat)) (.int (b : Nat)) = some (.int (a % b : Nat)) := by
  rw [modD_ii (by omega), Int.natCast_emod]
theorem int_i (i : Int) : intD [.int i] = some (.int i) := rfl
theorem ne_bb (b : Bool) : neD (.bool b) (.bool b) = some (.bool false) := neD_selfE (α := Bool) (by decide) b
theorem ne_oo (o : Option Nat) : neD (oD o) (oD o) = some (.bool false) := by
  cases o with
  | none => rfl
  | some k =>
    unfold oD
    rw [neD_ii]
    simp
theorem neX_bnd (n s d : Nat) : neX (bndD n s d) (bndD n s d) = some (.bool false) := by
  have h : dicSame (bndD n s d) (bndD n s d) = true := by
    have e : dicOf (bndD n s d) = some (false, [(.str "spheres", .int (sphN n s d : Nat)), (.str "places", .int (plcN n s d : Nat)), (.str "sums", oD (smsO n s d))]) := rfl
    unfold dicSame
    rw [e]
    have f : sameF (oD (smsO n s d)) (oD (smsO n s d)) = true := by
      cases smsO n s d with
      | none => rfl
      | some k => exact decide_eq_true rfl
    have g : ∀ k : Nat, sameF (.int (k : Nat)) (.int (k : Nat)) = true := fun k => decide_eq_true rfl
    simp only [sameEs, f, g, Bool.and_true, List.all_cons, List.all_nil]
    decide
  unfold neX
  rw [h]
  rfl
def dueN (s d : Nat) : Nat → Nat
  | 0 => 0
  | i + 1 => dueN s d i + d / s ^ i + (if d % s ^ i > 0 then 1 else 0)
theorem due_all : ([2, 3, 4, 5].all fun s => (List.range 13).all fun d => (List.range 6).all fun r => dueN s d r == LA.shF s r d) = true := by decide +kernel
theorem due_sh {s d r : Nat} (hs : 2 ≤ s) (hs2 : s ≤ 5) (hd : d ≤ 12) (hr : r ≤ 5) : dueN s d r = LA.shF s r d := by
  have a := List.all_eq_true.mp due_all s (by
    have : s = 2 ∨ s = 3 ∨ s = 4 ∨ s = 5 := by omega
    rcases this with rfl | rfl | rfl | rfl <;> decide)
  have b := List.all_eq_true.mp (List.all_eq_true.mp a d (List.mem_range.mpr (by omega))) r (List.mem_range.mpr (by omega))
  exact eq_of_beq b
theorem pos_nn {a : Nat} : decide ((0 : Int) < (a : Nat)) = decide (a > 0) := by
  rw [decide_eq_decide]
  omega
theorem ne_nn {a b : Nat} (h : a = b) : (!decide ((a : Int) = (b : Nat))) = false := by
  rw [h]
  simp
set_option maxHeartbeats 1000000 in
theorem sur_ok {a : Addr} {k : Int} {ns : List Int} {s n d : Nat} (hs : 2 ≤ s) (hs2 : s ≤ 5) (hn1 : 1 ≤ n) (hn12 : n ≤ 12) (hd : 1 ≤ d) (hdn : d ≤ n) {c5 c12 : Option D} {g6 g7 g8 g9 g10 g11 : Slot} (hn : DrawOk ns) :
    Wp b_sur [.un, .drw a k ns, .dat (.int s), .dat (.int n), .dat (.int d), gv c5, g6, g7, g8, g9, g10, g11, gv c12, .un, .un, .un, .un, .un, .un, .un, .un, .un, .un, .un, .un, .un, .un] fun o => ∃ S, o = .rt (.bool true) S := by
  unfold b_sur
  have e1 : ((d : Nat) : Int) - 1 = ((d - 1 : Nat) : Int) := by omega
  have e2 : ((n : Nat) : Int) - 1 = ((n - 1 : Nat) : Int) := by omega
  have e3 : ((s : Nat) : Int) - 1 = ((s - 1 : Nat) : Int) := by omega
  have hp := ball_pos n s (d - 1)
  have hb := ball_lt (n := n) (s := s) (r := d - 1) hn12 (by omega) (by omega)
  have hb2 : 2 ^ 100 < 2 ^ 190 := by decide
  have hsu := surely_eq (n := n) (s := s) (d := d) hn12 (by omega) (by omega) hd (by omega)
  have hsr := surely_rows_eq (n := n) (s := s) (d := d) hn12 (by omega) (by omega) hd (by omega) hn1
  have hc : surN n s d = s ^ n / LA.ballN n s (d - 1) + (if s ^ n % LA.ballN n s (d - 1) > 0 then 1 else 0) := ceil_nat hp
  have rest : Wp b_sr [.un, .drw a k ns, .dat (.int s), .dat (.int n), .dat (.int d), gv c5, g6, g7, g8, g9, g10, g11, gv c12, .dat (.int (LA.ballN n s (d - 1) : Nat)), .un, .un, .un, .un, .un, .un, .un, .un, .un, .un, .un, .un, .un] fun o => ∃ S, o = .rt (.bool true) S := by
    unfold b_sr
    simp only [↓kPre, kPost, rng1_ok (n := n) (by omega), list_range]
    refine W_forN n (st := fun i (c : Option D × Option D) => [.un, .drw a k ns, .dat (.int s), .dat (.int n), .dat (.int d), gv c.1, g6, g7, g8, g9, g10, g11, gv c.2, .dat (.int (LA.ballN n s (d - 1) : Nat)), .dat (.int (firS n s d i : Nat)), .un, .un, .un, .un, .un, .un, .un, .un, .un, .un, .un, .un]) (c5, c12) (fun i hi c => ?_) (fun c => ?_)
    · refine ⟨_, rfl, ?_⟩
      simp only [↓kPre, kPost]
      refine E_mapG nI (List.range (d - 1)) (fun k => .int ((LA.bin (n - 1) k * (s - 1) ^ k : Nat) : Int)) ?_ (by simp) (by first | rfl | (simp [plainAt, plain_gv]; done) | (simp [plainAt, plain_gv, plainSlot]; done)) (by simp only [List.length_range]; omega) (fun k hk => ?_) ?_
      · simp only [↓kPre, kPost, e1, rng1_ok (n := d - 1) (by omega), list_range, and_self]
      · have hk := List.mem_range.mp hk
        have hb := (bin_facts (n - 1) (by omega) k (by omega)).2.2
        simp only [↓kPre, kPost, nI_eq, e2, e3, lch_eq (m := n - 1) (k := k) (by omega) (by omega), lpow_eq (b := s - 1) (k := k) (by omega) (by omega), mul_nn (a := LA.bin (n - 1) k) (b := (s - 1) ^ k) (.inl (by omega)), and_self]
      · have e : sumD [.list ((List.range (d - 1)).map fun k => .int ((LA.bin (n - 1) k * (s - 1) ^ k : Nat) : Int))] = some (.int (toldN n s d : Nat)) := by
          rw [sumD_mapf, tot_cast]
          rfl
        obtain ⟨q1, q2, q3⟩ := firS_le n s d i
        obtain ⟨x, ex⟩ : ∃ x, x = firS n s d i := ⟨_, rfl⟩
        have ef : firS n s d (i + 1) = if x = i ∧ okS n s d i = false then i + 1 else x := by rw [ex]; rfl
        rw [← ex] at q1 ⊢
        simp only [↓kPre, kPost, e, lpow_eq (b := s) (k := x) (by omega) (by omega), dec_nn]
        by_cases h1 : s ^ x ≤ toldN n s d
        · have d1 : decide (s ^ x ≤ toldN n s d) = true := decide_eq_true h1
          by_cases h2 : 1 < d
          · have d2 : decide ((1 : Int) < (d : Nat)) = true := decide_eq_true (by omega)
            by_cases h3 : x = i
            · have d3 : decide (((x : Nat) : Int) = (i : Nat)) = true := decide_eq_true (by omega)
              have ok : okS n s d i = false := by
                unfold okS
                rw [← h3, decide_eq_false (by omega), decide_eq_false (by omega)]
                rfl
              have e4 : firS n s d (i + 1) = x + 1 := by rw [ef, if_pos ⟨h3, ok⟩, h3]
              have e5 : ((x : Nat) : Int) + 1 = ((x + 1 : Nat) : Int) := rfl
              simp only [↓kPre, kPost, nI_eq, d1, d2, d3, e4, e5]
              exact ⟨(some _, some _), .inl rfl⟩
            · have d3 : decide (((x : Nat) : Int) = (i : Nat)) = false := decide_eq_false (by omega)
              have e4 : firS n s d (i + 1) = x := by rw [ef, if_neg fun h => h3 h.1]
              simp only [↓kPre, kPost, nI_eq, d1, d2, d3, e4]
              exact ⟨(some _, some _), .inl rfl⟩
          · have d2 : decide ((1 : Int) < (d : Nat)) = false := decide_eq_false (by omega)
            have ok : okS n s d i = true := by
              unfold okS
              rw [show decide (d = 1) = true from decide_eq_true (by omega), Bool.or_true]
            have e4 : firS n s d (i + 1) = x := by rw [ef, if_neg fun h => by rw [ok] at h; cases h.2]
            simp only [↓kPre, kPost, nI_eq, d1, d2, e4]
            exact ⟨(some _, some _), .inl rfl⟩
        · have d1 : decide (s ^ x ≤ toldN n s d) = false := decide_eq_false h1
          have e4 : firS n s d (i + 1) = x := by
            rw [ef]
            by_cases h3 : x = i
            · have ok : okS n s d i = true := by
                unfold okS
                rw [← h3, show decide (toldN n s d < s ^ x) = true from decide_eq_true (by omega), Bool.true_or]
              rw [if_neg fun h => by rw [ok] at h; cases h.2]
            · rw [if_neg fun h => h3 h.1]
          simp only [↓kPre, kPost, nI_eq, d1, e4]
          exact ⟨(some _, some _), .inl rfl⟩
    · have hle := (firS_le n s d n).1
      have e4 : ((n : Nat) : Int) - (firS n s d n : Nat) = ((n - firS n s d n : Nat) : Int) := by omega
      simp only [↓kPre, kPost, hsr, e4, ne_nn rfl]
      exact gre_ok hn
  by_cases h : s ^ n % LA.ballN n s (d - 1) > 0
  · rw [if_pos h] at hc
    have e4 : decide (s ^ n % LA.ballN n s (d - 1) > 0) = true := decide_eq_true h
    have e5 : ((s ^ n / LA.ballN n s (d - 1) : Nat) : Int) + 1 = ((surN n s d : Nat) : Int) := by rw [hc]; rfl
    simp only [↓kPre, kPost, e1, lball_eq (n := n) (s := s) (r := d - 1) hn12 (by omega) (by omega) (by omega), hsu, lpow_eq (b := s) (k := n) (by omega) (by omega), fdiv_nn (a := s ^ n) hp (by omega), mod_nn (a := s ^ n) hp, int_i, pos_nn, e4, e5, ne_nn rfl]
    exact rest
  · rw [if_neg h] at hc
    have e4 : decide (s ^ n % LA.ballN n s (d - 1) > 0) = false := decide_eq_false h
    have e5 : ((s ^ n / LA.ballN n s (d - 1) : Nat) : Int) + 0 = ((surN n s d : Nat) : Int) := by rw [hc]; rfl
    simp only [↓kPre, kPost, e1, lball_eq (n := n) (s := s) (r := d - 1) hn12 (by omega) (by omega) (by omega), hsu, lpow_eq (b := s) (k := n) (by omega) (by omega), fdiv_nn (a := s ^ n) hp (by omega), mod_nn (a := s ^ n) hp, int_i, pos_nn, e4, e5, ne_nn rfl]
    exact rest
set_option maxHeartbeats 1000000 in
theorem sho_ok {a : Addr} {k : Int} {ns : List Int} {s n d : Nat} (hs : 2 ≤ s) (hs2 : s ≤ 5) (hn1 : 1 ≤ n) (hn12 : n ≤ 12) (hd : 1 ≤ d) (hdn : d ≤ n) {c5 : Option D} {g6 g7 g8 : Slot} (hn : DrawOk ns) :
    Wp b_sho [.un, .drw a k ns, .dat (.int s), .dat (.int n), .dat (.int d), gv c5, g6, g7, g8, .un, .un, .un, .un, .un, .un, .un, .un, .un, .un, .un, .un, .un, .un, .un, .un, .un, .un] fun o => ∃ S, o = .rt (.bool true) S := by
  unfold b_sho
  simp only [↓kPre, kPost]
  refine RwK_take (n := 5) hn (by omega) fun r k1 ns1 n1 hr _ => ?_
  have hr := hr (by omega)
  obtain ⟨m, em⟩ : ∃ m, m = 1 + r := ⟨_, rfl⟩
  have em2 : (1 : Int) + (r : Nat) = (m : Nat) := by omega
  simp only [↓kPre, kPost, em2, rng1_ok (n := m) (by omega), list_range]
  refine W_forN m (st := fun i (c : Option D) => [.un, .drw a k1 ns1, .dat (.int s), .dat (.int n), .dat (.int d), gv c5, g6, g7, g8, .dat (.int m), .dat (.int (dueN s d i : Nat)), .dat (.int (s ^ i : Nat)), gv c, .un, .un, .un, .un, .un, .un, .un, .un, .un, .un, .un, .un, .un, .un]) none (fun i hi c => ?_) (fun c => ?_)
  · refine ⟨_, rfl, ?_⟩
    have p0 : 0 < s ^ i := Nat.pow_pos (by omega)
    have p1 : s ^ i ≤ 5 ^ 5 := Nat.le_trans (Nat.pow_le_pow_left hs2 i) (Nat.pow_le_pow_right (by decide) (by omega))
    have p2 : s ^ i < 2 ^ 60 := by omega
    have e6 : mulD (.int (s ^ i : Nat)) (.int (s : Nat)) = some (.int (s ^ (i + 1) : Nat)) := by rw [mul_nn (.inr (by omega)), Nat.pow_succ]
    have e0 : ((dueN s d i : Nat) : Int) + (d / s ^ i : Nat) = ((dueN s d i + d / s ^ i : Nat) : Int) := rfl
    by_cases h : d % s ^ i > 0
    · have e4 : decide (d % s ^ i > 0) = true := decide_eq_true h
      have e5 : ((dueN s d i + d / s ^ i : Nat) : Int) + 1 = ((dueN s d (i + 1) : Nat) : Int) := by rw [dueN, if_pos h]; rfl
      simp only [↓kPre, kPost, fdiv_nn (a := d) p0 (by omega), mod_nn (a := d) p0, int_i, pos_nn, e4, e0, e5, e6]
      exact ⟨some _, .inl rfl⟩
    · have e4 : decide (d % s ^ i > 0) = false := decide_eq_false h
      have e5 : ((dueN s d i + d / s ^ i : Nat) : Int) + 0 = ((dueN s d (i + 1) : Nat) : Int) := by rw [dueN, if_neg h]; rfl
      simp only [↓kPre, kPost, fdiv_nn (a := d) p0 (by omega), mod_nn (a := d) p0, int_i, pos_nn, e4, e0, e5, e6]
      exact ⟨some _, .inl rfl⟩
  · have e := due_sh hs hs2 (show d ≤ 12 by omega) (show m ≤ 5 by omega)
    simp only [↓kPre, kPost, shortest_eq (s := s) (r := m) (d := d) (by omega) (by omega) (by omega), e, ne_nn rfl]
    exact sur_ok hs hs2 hn1 hn12 hd hdn (c12 := c) n1
set_option maxHeartbeats 1000000 in
theorem fit_ok {a : Addr} {k : Int} {ns : List Int} {s n d : Nat} (hs : 2 ≤ s) (hs2 : s ≤ 5) (hn1 : 1 ≤ n) (hn12 : n ≤ 12) (hd : 1 ≤ d) (hdn : d ≤ n) {c5 : Option D} (hn : DrawOk ns) :
    Wp b_fit [.un, .drw a k ns, .dat (.int s), .dat (.int n), .dat (.int d), gv c5, .dat (.int (sphN n s d : Nat)), .un, .un, .un, .un, .un, .un, .un, .un, .un, .un, .un, .un, .un, .un, .un, .un, .un, .un, .un, .un] fun o => ∃ S, o = .rt (.bool true) S := by
  unfold b_fit
  have e1 : ((n : Nat) : Int) + 1 = ((n + 1 : Nat) : Int) := rfl
  have e2 : ((n : Nat) : Int) - (d : Nat) + 1 = ((n - d + 1 : Nat) : Int) := by omega
  simp only [↓kPre, kPost, e1]
  refine RwK_take (n := n + 1) hn (by omega) fun r k1 ns1 n1 hr _ => ?_
  have hr := hr (by omega)
  simp only [↓kPre, kPost, ballP_eq (n := n) (s := s) (r := r) hn12 (by omega) (by omega) (by omega), lball_eq (n := n) (s := s) (r := r) hn12 (by omega) (by omega) (by omega), ne_nn rfl, e2, lpow_eq (b := s) (k := n - d + 1) (by omega) (by omega)]
  refine RwK_take (n := 300) n1 (by omega) fun r3 k3 ns3 n3 _ _ => ?_
  simp only [↓kPre, kPost]
  refine pickG nI (xs := [1, 2, sphN n s d, sphN n s d + 1, plcN n s d, plcN n s d + 1, r3]) (.inl rfl) n3 (by simp) (by simp) fun m _ k4 ns4 n4 => ?_
  simp only [↓kPre, kPost, nI_eq, fits_eq (n := n) (s := s) (d := d) hn12 (by omega) (by omega) hd (by omega) hdn (m := m), keeps_eq (n := n) (s := s) (d := d) hn12 (by omega) (by omega) hd (by omega) hdn (m := m), ne_bb]
  exact sho_ok hs hs2 hn1 hn12 hd hdn n4
theorem law_true : ∀ a ms, DrawOk ms → ∃ S, b_law (.un :: .drw a 0 ms :: List.replicate 25 .un) = .rt (.bool true) S := by
  intro a ms hm
  have key : Wp b_law [.un, .drw a 0 ms, .un, .un, .un, .un, .un, .un, .un, .un, .un, .un, .un, .un, .un, .un, .un, .un, .un, .un, .un, .un, .un, .un, .un, .un, .un] fun o => ∃ S, o = .rt (.bool true) S := by
    rw [law_split]
    simp only [↓kPre, kPost]
    refine pickG nI (xs := [2, 2, 3, 4, 5]) (.inl rfl) hm (by decide) (by decide) fun s hs k1 ns1 n1 => ?_
    have hs : 2 ≤ s ∧ s ≤ 5 := by
      simp only [List.mem_cons, List.not_mem_nil, or_false] at hs
      omega
    obtain ⟨hs, hs2⟩ := hs
    simp only [↓kPre, kPost, nI_eq]
    refine RwK_take (n := 12) n1 (by omega) fun r k2 ns2 n2 hr _ => ?_
    have hr := hr (by omega)
    obtain ⟨n, en⟩ : ∃ n, n = 1 + r := ⟨_, rfl⟩
    have en2 : (1 : Int) + (r : Nat) = (n : Nat) := by omega
    simp only [↓kPre, kPost, en2]
    refine RwK_take (n := n) n2 (by omega) fun r2 k3 ns3 n3 hr2 _ => ?_
    have hr2 := hr2 (by omega)
    obtain ⟨d, ed⟩ : ∃ d, d = 1 + r2 := ⟨_, rfl⟩
    have ed2 : (1 : Int) + (r2 : Nat) = (d : Nat) := by omega
    have hn12 : n ≤ 12 := by omega
    have hd : 1 ≤ d := by omega
    have hdn : d ≤ n := by omega
    have e1 : ((d : Nat) : Int) - 1 = ((d - 1 : Nat) : Int) := by omega
    have e2 : ((n : Nat) : Int) - (d : Nat) + 1 = ((n - d + 1 : Nat) : Int) := by omega
    have hb := ball_lt (n := n) (s := s) (r := (d - 1) / 2) hn12 (by omega) (by omega)
    have hp := ball_pos n s ((d - 1) / 2)
    have hb2 : 2 ^ 100 < 2 ^ 190 := by decide
    have es : fdivD (.int (s ^ n : Nat)) (.int (LA.ballN n s ((d - 1) / 2) : Nat)) = some (.int (sphN n s d : Nat)) := fdiv_nn hp (by omega)
    have el : f__law_power [.int s, .int (n - d + 1 : Nat)] = .ok (.int (plcN n s d : Nat)) := lpow_eq (by omega) (by omega)
    simp only [↓kPre, kPost, ed2, all_bounds_eq (n := n) (s := s) (d := d) hn12 (by omega) (by omega) hd (by omega) hdn, e1, half_d (n := n) (s := s) (d := d) hn12 (by omega) (by omega) hd (by omega), lpow_eq (b := s) (k := n) (by omega) (by omega), lball_eq (n := n) (s := s) (r := (d - 1) / 2) hn12 (by omega) (by omega) (by omega), es, by_spheres_eq (n := n) (s := s) (d := d) hn12 (by omega) (by omega) hd (by omega), by_places_eq (n := n) (s := s) (d := d) hn12 (by omega) (by omega) hd (by omega) hdn, by_sums_eq (n := n) (s := s) (d := d) hn12 (by omega) (by omega) hd (by omega), law_sums_eq (n := n) (s := s) (d := d) hn12 (by omega) (by omega) hd (by omega), e2, el, ne_nn rfl, ne_oo]
    refine OpK.of (a := [(PyData.str "spheres", PyData.int (sphN n s d : Nat)), (PyData.str "places", PyData.int (plcN n s d : Nat)), (PyData.str "sums", oD (smsO n s d))]) rfl ?_
    have ex : neX (bndD n s d) (dictD false [(PyData.str "spheres", PyData.int (sphN n s d : Nat)), (PyData.str "places", PyData.int (plcN n s d : Nat)), (PyData.str "sums", oD (smsO n s d))]) = some (.bool false) := neX_bnd n s d
    simp only [↓kPre, kPost, ex]
    exact fit_ok hs hs2 (by omega) hn12 hd hdn (c5 := some _) n3
  obtain ⟨_, S, e⟩ := key
  exact ⟨S, e⟩
end FW

open PySem PySem.W PySem.Calls PyProof.Rows
set_option maxHeartbeats 0 in
theorem PySem.Challenge.cw_farwords_k12_whole_bounds_and_what_keeps_holds : PySem.Challenge.rw_farwords_k12_whole_bounds_and_what_keeps.Holds := by
  w_on; o_law
  refine HandSHeadRun.head_any (r := OpenLaw.row PySem.Challenge.rw_farwords_k12_whole_bounds_and_what_keeps) (q := view (OpenLaw.row PySem.Challenge.rw_farwords_k12_whole_bounds_and_what_keeps).prog [39]) (H := FW.hk) (ob := FW.ob) (M := 4000) (loose := FW.loose) (d := HandSHeadRun.topDef (OpenLaw.row PySem.Challenge.rw_farwords_k12_whole_bounds_and_what_keeps).prog 39) (kwd := []) FW.ob_eq
    (by kernel_rfl) (fun s => by kernel_rfl) FW.run (by kernel_rfl) (by kernel_rfl) (by kernel_rfl) (by rfl) (by first | assumption | decide +kernel) (by decide +kernel) ⟨rfl, rfl, rfl, rfl, rfl, by decide +kernel⟩ ?hw ?hc
  case hw => w_witness2
  case hc =>
    refine L2.walk_ofE (l := PySem.Challenge.rw_farwords_k12_whole_bounds_and_what_keeps) (n := 63) (k := 6) (x := "script") (CX := L2.CX0) rfl (by decide) (by kernel_rfl) ⟨rfl, by decide, by decide⟩ ?F (fun _ _ _ _ z => z)
    intro w mg fa h Y G hmg0
    obtain ⟨K, KX, c⟩ := Y
    have hmg : mg ("law" : PySem.Str) = some (.ref fa) := by
      have e : (HandSHeadRun.topDef (OpenLaw.row PySem.Challenge.rw_farwords_k12_whole_bounds_and_what_keeps).prog 39).name = ("law" : PySem.Str) := by kernel_rfl
      rw [← e]
      exact hmg0
    obtain ⟨fd, hb, hF⟩ := FW.facts (w := w) FW.law_true KX G hmg c
    exact ⟨K, fd, FW.spLaw K, KX, hb, fun H a ns hl _ hS => ⟨a, ns, rfl, hS, hl, fun _ => rfl⟩, hF⟩

