import PyProof.Rows.All
import HandS.ForMost
import HandS.Deep
import HandS.TupMul
import HandS.TupAny
import HandS.TupLe
import HandS.Conv
import HandS.Style
import HandS.IsInst
import HandS.Wide
import HandS.More
import HandS.WideBits
import HandS.NoneIn
import HandS.Exc
import HandS.ExcOwn
import HandS.WordsExc
import KE.DataEq
import HandS.TupLen
import HandS.Small
import HandS.SortInts
import HandS.HeadHook1
import HandS.Head0
import HandS.Head1
import HandS.Head2
import HandS.HeadEnd
import HandS.HeadHook2
import KE.SortData
import HandS.Zip
import KE.GoesZip
import KE.GoesMore
import KE.GoesEnum
import KE.DatumOrd
import KE.KSuper
import KE.KExcSuper
import HandS.ExcInit
import HandS.ExcField
import PySem.Challenge.RW_farwords_k16_whole_transforms_and_flat_l
set_option Elab.async false
set_option linter.all false
set_option maxRecDepth 100000
/-! FwA: a layer of values as plain data over the hand layer: slots, configurations, expressions and statements as plain functions. -/
namespace FW
open PySem PySem.Spec L2
open PyProof.Rows hiding St
abbrev D := PyData

/-! ### data in the abstract heap -/
/-- a key as data -/
def kD : Key → D
  | .inl i => .int i
  | .inr x => .str x
/-- keys that are tuples -/
def kTD (ks : List Key) : D := .tuple (ks.map kD)
/-- what tells a dict of tuple keys from one of ints and texts -/
def tagT : D × D := (.list [.none], .none)
/-- .. an instance -/
def tagI : D := .list []
def obD (cls : Str) (ns : List Str) (ds : List D) : D := .dict ((tagI, .str cls) :: (ns.map PyData.str).zip ds)
def dictD (t : Bool) (es : List (D × D)) : D := .dict (if t then tagT :: es else es)
mutual
inductive Rp (K : PySem.W.Frag) (Z : Hp) : V → D → Prop
  | non : Rp K Z .non .none
  | bl (b : Bool) : Rp K Z (.bl b) (.bool b)
  | int (i : Int) : Rp K Z (.int i) (.int i)
  | str (x : Str) : Rp K Z (.str x) (.str x)
  | lst {a : Addr} {xs : List V} {ds : List D} : Z a = some (.lst xs) → RpA K Z xs ds → Rp K Z (.ref a) (.list ds)
  | tup {a : Addr} {xs : List V} {ds : List D} : Z a = some (.tup xs) → RpA K Z xs ds → Rp K Z (.ref a) (.tuple ds)
  | dk {a : Addr} {o : Obj} {ks : List Key} {vs : List V} {es : List D} : Z a = some (.frz o (.dK (ks.zip vs))) → ks.length = es.length → RpA K Z vs es → Rp K Z (.ref a) (.dict ((ks.map kD).zip es))
  | dt {a : Addr} {o : Obj} {ks : List (List Key)} {vs : List V} {es : List D} : Z a = some (.frz o (.dT (ks.zip vs))) → ks.length = es.length → RpA K Z vs es → Rp K Z (.ref a) (.dict (tagT :: (ks.map kTD).zip es))
  | ob {a dx : Addr} {cls : Str} {ns : List Str} {vs : List V} {ds : List D} : Z a = some (.ins (He.ga K cls) dx (ns.zip vs)) → Z dx = some (.own a) → ns.length = ds.length → RpA K Z vs ds → Rp K Z (.ref a) (obD cls ns ds)
inductive RpA (K : PySem.W.Frag) (Z : Hp) : List V → List D → Prop
  | nil : RpA K Z [] []
  | cons {v : V} {vs : List V} {d : D} {ds : List D} : Rp K Z v d → RpA K Z vs ds → RpA K Z (v :: vs) (d :: ds)
end
theorem sameT {K : PySem.W.Frag} {Z Z' : Hp} {a : Addr} {xs : List V} (e : Same Z Z') (h : SqT K Z a xs) : SqT K Z' a xs := by
  rcases h with (h | ⟨o, h⟩) | h
  · exact .inl (.inl (e _ _ h))
  · exact .inl (.inr ⟨o, e _ _ h⟩)
  · exact .inr h
mutual
theorem Rp.mono {K : PySem.W.Frag} {Z Z' : Hp} {v : V} {d : D} (h : Rp K Z v d) (e : Same Z Z') : Rp K Z' v d := match h with
  | .non => .non
  | .bl _ => .bl _
  | .int _ => .int _
  | .str _ => .str _
  | .lst h1 h2 => .lst (e _ _ h1) (RpA.mono h2 e)
  | .tup h1 h2 => .tup (e _ _ h1) (RpA.mono h2 e)
  | .dk h1 h2 h3 => .dk (e _ _ h1) h2 (RpA.mono h3 e)
  | .dt h1 h2 h3 => .dt (e _ _ h1) h2 (RpA.mono h3 e)
  | .ob h1 h2 h3 h4 => .ob (e _ _ h1) (e _ _ h2) h3 (RpA.mono h4 e)
theorem RpA.mono {K : PySem.W.Frag} {Z Z' : Hp} {vs : List V} {ds : List D} (h : RpA K Z vs ds) (e : Same Z Z') : RpA K Z' vs ds := match h with
  | .nil => .nil
  | .cons h1 h2 => .cons (Rp.mono h1 e) (RpA.mono h2 e)
end
mutual
/-- no dict is in it -/
def noDict : D → Bool
  | .list ds => noDictA ds
  | .tuple ds => noDictA ds
  | .dict _ => false
  | _ => true
def noDictA : List D → Bool
  | [] => true
  | d :: ds => noDict d && noDictA ds
end
mutual
theorem Rp.dp {K : PySem.W.Frag} {Z : Hp} {v : V} {d : D} (h : Rp K Z v d) (n : noDict d = true) : Dp K Z v d := match h with
  | .non => .non
  | .bl _ => .bl _
  | .int _ => .int _
  | .str _ => .str _
  | .lst h1 h2 => .lst (SqL.of h1) (RpA.dp h2 n)
  | .tup h1 h2 => .tup (SqT.of h1) (RpA.dp h2 n)
  | .dk _ _ _ => by simp [noDict] at n
  | .dt _ _ _ => by simp [noDict] at n
  | .ob _ _ _ _ => by simp [obD, noDict] at n
theorem RpA.dp {K : PySem.W.Frag} {Z : Hp} {vs : List V} {ds : List D} (h : RpA K Z vs ds) (n : noDictA ds = true) : DpAll K Z vs ds := match h with
  | .nil => .nil
  | .cons h1 h2 => by
    simp only [noDictA, Bool.and_eq_true] at n
    exact .cons (Rp.dp h1 n.1) (RpA.dp h2 n.2)
end
theorem RpA.length {K : PySem.W.Frag} {Z : Hp} : ∀ {ds : List D} {vs : List V}, RpA K Z vs ds → vs.length = ds.length
  | [], _, h => by cases h; rfl
  | d :: ds, _, h => by
    cases h with
    | cons h1 h2 => simp [RpA.length h2]
theorem RpA.get {K : PySem.W.Frag} {Z : Hp} : ∀ {ds : List D} {vs : List V} {i : Nat} {d : D}, RpA K Z vs ds → ds[i]? = some d → ∃ v, vs[i]? = some v ∧ Rp K Z v d
  | [], _, _, _, h, e => by simp at e
  | d :: ds, _, 0, _, h, e => by
    cases h with
    | cons h1 h2 => simp at e; subst e; exact ⟨_, rfl, h1⟩
  | d :: ds, _, i + 1, _, h, e => by
    cases h with
    | cons h1 h2 =>
      obtain ⟨v, q1, q2⟩ := RpA.get h2 (by simpa using e)
      exact ⟨v, by simpa using q1, q2⟩
theorem RpA.getV {K : PySem.W.Frag} {Z : Hp} : ∀ {ds : List D} {vs : List V} {i : Nat} {v : V}, RpA K Z vs ds → vs[i]? = some v → ∃ d, ds[i]? = some d ∧ Rp K Z v d
  | [], _, _, _, h, e => by cases h; simp at e
  | d :: ds, _, 0, _, h, e => by
    cases h with
    | cons h1 h2 => simp at e; subst e; exact ⟨_, rfl, h1⟩
  | d :: ds, _, i + 1, _, h, e => by
    cases h with
    | cons h1 h2 =>
      obtain ⟨v, q1, q2⟩ := RpA.getV h2 (by simpa using e)
      exact ⟨v, by simpa using q1, q2⟩
theorem RpA.append {K : PySem.W.Frag} {Z : Hp} : ∀ {ds es : List D} {vs us : List V}, RpA K Z vs ds → RpA K Z us es → RpA K Z (vs ++ us) (ds ++ es)
  | [], _, _, _, h, h' => by cases h; exact h'
  | d :: ds, _, _, _, h, h' => by
    cases h with
    | cons h1 h2 => exact .cons h1 (RpA.append h2 h')
theorem RpA.take {K : PySem.W.Frag} {Z : Hp} : ∀ {ds : List D} {vs : List V} (n : Nat), RpA K Z vs ds → RpA K Z (vs.take n) (ds.take n)
  | _, _, 0, h => by simp; exact .nil
  | [], _, n + 1, h => by cases h; exact .nil
  | d :: ds, _, n + 1, h => by
    cases h with
    | cons h1 h2 => exact .cons h1 (RpA.take n h2)
theorem RpA.drop {K : PySem.W.Frag} {Z : Hp} : ∀ {ds : List D} {vs : List V} (n : Nat), RpA K Z vs ds → RpA K Z (vs.drop n) (ds.drop n)
  | _, _, 0, h => by simpa using h
  | [], _, n + 1, h => by cases h; exact .nil
  | d :: ds, _, n + 1, h => by
    cases h with
    | cons h1 h2 => exact RpA.drop n h2
theorem RpA.set {K : PySem.W.Frag} {Z : Hp} : ∀ {ds : List D} {vs : List V} (n : Nat) {v : V} {d : D}, RpA K Z vs ds → Rp K Z v d → RpA K Z (vs.set n v) (ds.set n d)
  | [], _, n, _, _, h, _ => by cases h; exact .nil
  | d :: ds, _, 0, _, _, h, h' => by
    cases h with
    | cons h1 h2 => exact .cons h' h2
  | d :: ds, _, n + 1, _, _, h, h' => by
    cases h with
    | cons h1 h2 => exact .cons h1 (RpA.set n h2 h')
theorem RpA.rev {K : PySem.W.Frag} {Z : Hp} : ∀ {ds : List D} {vs : List V}, RpA K Z vs ds → RpA K Z vs.reverse ds.reverse
  | [], _, h => by cases h; exact .nil
  | d :: ds, _, h => by
    cases h with
    | cons h1 h2 =>
      rw [List.reverse_cons, List.reverse_cons]
      exact RpA.append (RpA.rev h2) (.cons h1 .nil)
theorem RpA.rep {K : PySem.W.Frag} {Z : Hp} {ds : List D} {vs : List V} (h : RpA K Z vs ds) : ∀ k : Nat, RpA K Z (List.replicate k vs).flatten (List.replicate k ds).flatten
  | 0 => .nil
  | k + 1 => by
    rw [List.replicate_succ, List.flatten_cons, List.replicate_succ, List.flatten_cons]
    exact h.append (RpA.rep h k)
theorem RpA.eraseIdx {K : PySem.W.Frag} {Z : Hp} : ∀ {ds : List D} {vs : List V} (n : Nat), RpA K Z vs ds → RpA K Z (vs.eraseIdx n) (ds.eraseIdx n)
  | [], _, n, h => by cases h; exact .nil
  | d :: ds, _, 0, h => by
    cases h with
    | cons h1 h2 => exact h2
  | d :: ds, _, n + 1, h => by
    cases h with
    | cons h1 h2 => exact .cons h1 (RpA.eraseIdx n h2)

/-! ### slots and configurations -/
inductive Slot where
  | un
  | dat (d : D)
  | own (ds : List D)
  | dic (t : Bool) (es : List (D × D))
  | obj (a dx : Addr) (cls : Str) (ns : List Str) (ds : List D)
  | drw (a : Addr) (k : Int) (ns : List Int)
structure Cfg where
  Z : Hp
  H : Hp
  F : List Addr
/-- a dict as it stands at p -/
def DicAt (K : PySem.W.Frag) (Z : Hp) (o : Option HO) : Bool → List (D × D) → Prop
  | false, es => ∃ (ks : List Key) (vs : List V) (ds : List D), o = some (.dK (ks.zip vs)) ∧ ks.length = ds.length ∧ RpA K Z vs ds ∧ es = (ks.map kD).zip ds
  | true, es => ∃ (ks : List (List Key)) (vs : List V) (ds : List D), o = some (.dT (ks.zip vs)) ∧ ks.length = ds.length ∧ RpA K Z vs ds ∧ es = (ks.map kTD).zip ds
theorem DicAt.mono {K : PySem.W.Frag} {Z Z' : Hp} {o : Option HO} (e : Same Z Z') : ∀ {t : Bool} {es : List (D × D)}, DicAt K Z o t es → DicAt K Z' o t es
  | false, _, ⟨ks, vs, ds, h1, h2, h3, h4⟩ => ⟨ks, vs, ds, h1, h2, h3.mono e, h4⟩
  | true, _, ⟨ks, vs, ds, h1, h2, h3, h4⟩ => ⟨ks, vs, ds, h1, h2, h3.mono e, h4⟩
theorem DicAt.obj {K : PySem.W.Frag} {Z : Hp} {o : Option HO} : ∀ {t : Bool} {es : List (D × D)}, DicAt K Z o t es → ∃ u, o = some u ∧ Mut (some u) ∧ ∀ xs, u ≠ .tup xs
  | false, _, ⟨ks, vs, ds, h1, h2, h3, h4⟩ => ⟨_, h1, trivial, fun xs e => by cases e⟩
  | true, _, ⟨ks, vs, ds, h1, h2, h3, h4⟩ => ⟨_, h1, trivial, fun xs e => by cases e⟩
def SlotOk (K : PySem.W.Frag) (c : Cfg) : Slot → Option V → List Addr → Prop
  | .un, _, F => F = []
  | .dat d, x, F => F = [] ∧ ∃ v, x = some v ∧ Rp K c.Z v d
  | .own ds, x, F => ∃ p vs, F = [p] ∧ x = some (.ref p) ∧ c.H p = some (.lst vs) ∧ RpA K c.Z vs ds
  | .dic t es, x, F => ∃ p, F = [p] ∧ x = some (.ref p) ∧ DicAt K c.Z (c.H p) t es
  | .obj a dx cls ns ds, x, F => ∃ vs, F = [a, dx] ∧ x = some (.ref a) ∧ c.H a = some (.ins (He.ga K cls) dx (ns.zip vs)) ∧ c.H dx = some (.own a) ∧ ns.length = ds.length ∧ RpA K c.Z vs ds
  | .drw a k ns, x, F => ∃ b, F = [a, b] ∧ x = some (.ref a) ∧ c.H a = some (.lst [.int k, .ref b]) ∧ c.H b = some (.lst (ns.map V.int))
inductive HoldsL (K : PySem.W.Frag) (c : Cfg) : List Slot → St → List Addr → Prop
  | nil : HoldsL K c [] [] []
  | cons {s : Slot} {x : Option V} {F1 F2 : List Addr} {S : List Slot} {σ : St} : SlotOk K c s x F1 → HoldsL K c S σ F2 → HoldsL K c (s :: S) (x :: σ) (F1 ++ F2)
structure Holds (K : PySem.W.Frag) (S : List Slot) (σ : St) (c : Cfg) : Prop where
  l : HoldsL K c S σ c.F
  nd : c.F.Nodup
  zf : ∀ a ∈ c.F, c.Z a = none
  zh : Same c.Z c.H
structure Stp (c c' : Cfg) : Prop where
  z : Same c.Z c'.Z
  k : ∀ b o, c.H b = some o → b ∉ c.F → c'.H b = some o
  t : ∀ b o, c.H b = some o → ∃ o', c'.H b = some o'
  n : ∀ b o, c'.Z b = some o → c.Z b = some o ∨ c.H b = none ∨ b ∈ c.F ∨ ∃ xs, c.H b = some (.tup xs)
  f : ∀ b ∈ c'.F, b ∈ c.F ∨ c.H b = none
theorem Stp.refl (c : Cfg) : Stp c c := ⟨Same.refl _, fun _ _ h _ => h, fun _ o h => ⟨o, h⟩, fun _ _ h => .inl h, fun _ h => .inl h⟩
theorem Stp.was {c c' : Cfg} (a : Stp c c') {b : Addr} (h : c'.H b = none) : c.H b = none := by
  cases q : c.H b with
  | none => rfl
  | some o =>
    obtain ⟨o', e⟩ := a.t b o q
    rw [h] at e
    cases e
theorem Stp.trans {c c' c'' : Cfg} (a : Stp c c') (b : Stp c' c'') : Stp c c'' where
  z := a.z.trans b.z
  k := fun x o h hn => b.k x o (a.k x o h hn) fun hm => by
    rcases a.f x hm with z | z
    · exact hn z
    · rw [h] at z
      cases z
  t := fun x o h => by
    obtain ⟨o', e⟩ := a.t x o h
    exact b.t x o' e
  n := fun x o h => by
    rcases b.n x o h with z | z | z | ⟨xs, z⟩
    · exact a.n x o z
    · exact .inr (.inl (a.was z))
    · rcases a.f x z with z | z
      · exact .inr (.inr (.inl z))
      · exact .inr (.inl z)
    · cases q : c.H x with
      | none => exact .inr (.inl rfl)
      | some u =>
        by_cases m : x ∈ c.F
        · exact .inr (.inr (.inl m))
        · have q2 := a.k x u q m
          rw [z] at q2
          cases q2
          exact .inr (.inr (.inr ⟨xs, rfl⟩))
  f := fun x h => by
    rcases b.f x h with z | z
    · exact a.f x z
    · exact .inr (a.was z)
theorem SlotOk.tr {K : PySem.W.Frag} {c c' : Cfg} {s : Slot} {x : Option V} {F : List Addr} (h : SlotOk K c s x F) (z : Same c.Z c'.Z) (e : ∀ a ∈ F, c'.H a = c.H a) : SlotOk K c' s x F := by
  cases s with
  | un => exact h
  | dat d =>
    obtain ⟨h1, v, h2, h3⟩ := h
    exact ⟨h1, v, h2, h3.mono z⟩
  | own ds =>
    obtain ⟨p, vs, h1, h2, h3, h4⟩ := h
    subst h1
    exact ⟨p, vs, rfl, h2, (e p (List.mem_cons_self)).trans h3, h4.mono z⟩
  | dic t es =>
    obtain ⟨p, h1, h2, h3⟩ := h
    subst h1
    refine ⟨p, rfl, h2, ?_⟩
    rw [e p (List.mem_cons_self)]
    exact h3.mono z
  | obj a dx cls ns ds =>
    obtain ⟨vs, h1, h2, h3, h4, h5, h6⟩ := h
    subst h1
    exact ⟨vs, rfl, h2, (e a (by simp)).trans h3, (e dx (by simp)).trans h4, h5, h6.mono z⟩
  | drw a k ns =>
    obtain ⟨b, h1, h2, h3, h4⟩ := h
    subst h1
    exact ⟨b, rfl, h2, (e a (by simp)).trans h3, (e b (by simp)).trans h4⟩
theorem HoldsL.tr {K : PySem.W.Frag} {c c' : Cfg} (z : Same c.Z c'.Z) : ∀ {S : List Slot} {σ : St} {F : List Addr}, HoldsL K c S σ F → (∀ a ∈ F, c'.H a = c.H a) → HoldsL K c' S σ F
  | _, _, _, .nil, _ => .nil
  | _, _, _, .cons h t, e => .cons (h.tr z fun a m => e a (List.mem_append_left _ m)) (HoldsL.tr z t fun a m => e a (List.mem_append_right _ m))
theorem HoldsL.len {K : PySem.W.Frag} {c : Cfg} : ∀ {S : List Slot} {σ : St} {F : List Addr}, HoldsL K c S σ F → σ.length = S.length
  | _, _, _, .nil => rfl
  | _, _, _, .cons _ t => by simp [HoldsL.len t]
theorem HoldsL.at {K : PySem.W.Frag} {c : Cfg} : ∀ {S : List Slot} {σ : St} {F : List Addr} {i : Nat} {s : Slot}, HoldsL K c S σ F → S[i]? = some s →
    ∃ A Fi B x, F = A ++ (Fi ++ B) ∧ σ[i]? = some x ∧ SlotOk K c s x Fi ∧
      ∀ (c' : Cfg) s' x' F', Same c.Z c'.Z → (∀ a ∈ A ++ B, c'.H a = c.H a) → SlotOk K c' s' x' F' → HoldsL K c' (S.set i s') (σ.set i x') (A ++ (F' ++ B))
  | _, _, _, i, _, .nil, e => by simp at e
  | _, _, _, 0, s, .cons (F1 := F1) (F2 := F2) h t, e => by
    simp at e
    subst e
    refine ⟨[], F1, F2, _, rfl, rfl, h, fun c' s' x' F' z q o => ?_⟩
    rw [List.nil_append]
    exact .cons o (t.tr z fun a m => q a (by simpa using m))
  | _, _, _, i + 1, s, .cons (F1 := F1) (F2 := F2) h t, e => by
    obtain ⟨A, Fi, B, x, e1, e2, o, up⟩ := HoldsL.at (i := i) (s := s) t (by simpa using e)
    subst e1
    refine ⟨F1 ++ A, Fi, B, x, by simp, by simpa using e2, o, fun c' s' x' F' z q o' => ?_⟩
    rw [List.set_cons_succ, List.set_cons_succ, List.append_assoc]
    exact .cons (h.tr z fun a m => q a (by simp [m])) (up c' s' x' F' z (fun a m => q a (by simp at m; rcases m with m | m <;> simp [m])) o')
/-- a new object, frozen at once -/
def Cfg.lay (c : Cfg) (p : Addr) (o : HO) : Cfg := ⟨upd c.Z p o, upd c.H p o, c.F⟩
/-- a new object, kept apart -/
def Cfg.tmp (c : Cfg) (p : Addr) (o : HO) : Cfg := ⟨c.Z, upd c.H p o, c.F⟩
theorem same_upd {H : Hp} {p : Addr} {o : HO} (h : H p = none) : Same H (upd H p o) := fun b x e => by
  rw [upd_ne (ne_of_none e h)]
  exact e
theorem Holds.nf {K : PySem.W.Frag} {S : List Slot} {σ : St} {c : Cfg} (h : Holds K S σ c) {p : Addr} (hp : c.H p = none) : c.Z p = none := h.zh.free hp
theorem HoldsL.own {K : PySem.W.Frag} {c : Cfg} : ∀ {S : List Slot} {σ : St} {F : List Addr}, HoldsL K c S σ F → ∀ a ∈ F, ∃ o, c.H a = some o ∧ ∀ xs, o ≠ .tup xs
  | _, _, _, .nil, a, m => by simp at m
  | _, _, _, .cons (s := s) h t, a, m => by
    rcases List.mem_append.mp m with m | m
    · cases s with
      | un => subst h; simp at m
      | dat d =>
        obtain ⟨h1, _⟩ := h
        subst h1
        simp at m
      | own ds =>
        obtain ⟨p, vs, h1, h2, h3, h4⟩ := h
        subst h1
        simp at m
        subst m
        exact ⟨_, h3, fun xs e => by cases e⟩
      | dic t es =>
        obtain ⟨p, h1, h2, h3⟩ := h
        subst h1
        simp at m
        subst m
        obtain ⟨u, e1, _, e2⟩ := h3.obj
        exact ⟨u, e1, e2⟩
      | obj a' dx cls ns ds =>
        obtain ⟨vs, h1, h2, h3, h4, h5, h6⟩ := h
        subst h1
        simp at m
        rcases m with m | m
        · subst m
          exact ⟨_, h3, fun xs e => by cases e⟩
        · subst m
          exact ⟨_, h4, fun xs e => by cases e⟩
      | drw a' k ns =>
        obtain ⟨b, h1, h2, h3, h4⟩ := h
        subst h1
        simp at m
        rcases m with m | m
        · subst m
          exact ⟨_, h3, fun xs e => by cases e⟩
        · subst m
          exact ⟨_, h4, fun xs e => by cases e⟩
    · exact HoldsL.own t a m
theorem Holds.nF {K : PySem.W.Frag} {S : List Slot} {σ : St} {c : Cfg} (h : Holds K S σ c) {p : Addr} (hp : c.H p = none) : p ∉ c.F := fun m => by
  obtain ⟨o, e, _⟩ := h.l.own p m
  rw [hp] at e
  cases e
theorem Holds.lay {K : PySem.W.Frag} {S : List Slot} {σ : St} {c : Cfg} (h : Holds K S σ c) {p : Addr} {o : HO} (hp : c.H p = none) : Stp c (c.lay p o) ∧ Holds K S σ (c.lay p o) := by
  have hz := h.nf hp
  have hF := h.nF hp
  refine ⟨⟨same_upd hz, fun b x e _ => same_upd hp b x e, fun b x e => ⟨x, same_upd hp b x e⟩, fun b x e => ?_, fun b m => .inl m⟩, ⟨?_, h.nd, fun a m => ?_, ?_⟩⟩
  · by_cases hb : b = p
    · subst hb
      exact .inr (.inl hp)
    · have e' : upd c.Z p o b = some x := e
      rw [upd_ne hb] at e'
      exact .inl e'
  · refine h.l.tr (same_upd hz) fun a m => ?_
    have ne : a ≠ p := fun z => hF (z ▸ m)
    exact upd_ne ne
  · have ne : a ≠ p := fun z => hF (z ▸ m)
    show upd c.Z p o a = none
    rw [upd_ne ne]
    exact h.zf a m
  · intro b x e
    show upd c.H p o b = some x
    by_cases hb : b = p
    · subst hb
      have e' : upd c.Z b o b = some x := e
      rw [upd_same] at e' ⊢
      exact e'
    · have e' : upd c.Z p o b = some x := e
      rw [upd_ne hb] at e' ⊢
      exact h.zh b x e'
theorem Holds.tmp {K : PySem.W.Frag} {S : List Slot} {σ : St} {c : Cfg} (h : Holds K S σ c) {p : Addr} {o : HO} (hp : p ∉ c.F) (hz : c.Z p = none) (hk : ∀ x, c.H p = some x → ∃ y, o = y) : Holds K S σ (c.tmp p o) := by
  refine ⟨HoldsL.tr (c' := c.tmp p o) (Same.refl c.Z) h.l fun a m => upd_ne (show a ≠ p from fun z => hp (z ▸ m)), h.nd, h.zf, fun b x e => ?_⟩
  show upd c.H p o b = some x
  have ne : b ≠ p := fun z => by
    subst z
    have e' : c.Z b = some x := e
    rw [hz] at e'
    cases e'
  rw [upd_ne ne]
  exact h.zh b x e
theorem Holds.tmpS {K : PySem.W.Frag} {S : List Slot} {σ : St} {c : Cfg} (h : Holds K S σ c) {p : Addr} {o : HO} (hp : c.H p = none) : Stp c (c.tmp p o) ∧ Holds K S σ (c.tmp p o) :=
  ⟨⟨Same.refl _, fun b x e _ => same_upd hp b x e, fun b x e => ⟨x, same_upd hp b x e⟩, fun b x e => .inl e, fun b m => .inl m⟩, h.tmp (h.nF hp) (h.nf hp) fun _ _ => ⟨_, rfl⟩⟩

/-! ### what an expression, a statement is worth -/
structure Exn where
  cls : String
  fs : List (Str × V)
inductive Er (α : Type) where
  | ok (a : α) (S : List Slot)
  | ex (e : Exn) (S : List Slot)
  | bad
abbrev EM (α : Type) := List Slot → Er α
def eRet {α : Type} (a : α) : EM α := fun S => .ok a S
def eOpt {α : Type} : Option α → EM α
  | some a => fun S => .ok a S
  | none => fun _ => .bad
def eBind {α β : Type} (m : EM α) (g : α → EM β) : EM β := fun S => match m S with
  | .ok a S' => g a S'
  | .ex e S' => .ex e S'
  | .bad => .bad
inductive Out where
  | nx (S : List Slot)
  | rt (d : D) (S : List Slot)
  | bk (S : List Slot)
  | ct (S : List Slot)
  | ex (e : Exn) (S : List Slot)
  | bad
abbrev SM := List Slot → Out

structure Gx where
  K : PySem.W.Frag
  mg : Str → Option Value
  W : WX
/-- an exception as it lies -/
def ExOk (mg : Str → Option Value) (H : Hp) (e : Exn) (cls : Value) (dx : Option Addr) : Prop :=
  ∃ C d, mg (Str.ofString e.cls) = some (.ref C) ∧ cls = .ref C ∧ dx = some d ∧ H d = some (.xd e.fs)
def Go {α : Type} (G : Gx) (σ : St) (c : Cfg) (r : Er α) (P : α → List Slot → Cfg → Prop) : Prop := match r with
  | .ok a S => ∀ c', Stp c c' → Holds G.K S σ c' → P a S c'
  | .ex e S => ∀ c' cls dx, Stp c c' → Holds G.K S σ c' → ExOk G.mg c'.Z e cls dx → G.W cls dx σ c'.H
  | .bad => False
theorem Go.step {α : Type} {G : Gx} {σ : St} {c c1 : Cfg} {r : Er α} {P : α → List Slot → Cfg → Prop} (h : Go G σ c r P) (s : Stp c c1) : Go G σ c1 r P := by
  cases r with
  | ok a S => exact fun c' s' o => h c' (s.trans s') o
  | ex e S => exact fun c' cls dx s' o x => h c' cls dx (s.trans s') o x
  | bad => exact h
theorem Go.mono {α : Type} {G : Gx} {σ : St} {c : Cfg} {r : Er α} {P P' : α → List Slot → Cfg → Prop} (h : Go G σ c r P) (i : ∀ a S c', Stp c c' → Holds G.K S σ c' → P a S c' → P' a S c') : Go G σ c r P' := by
  cases r with
  | ok a S => exact fun c' s' o => i a S c' s' o (h c' s' o)
  | ex e S => exact h
  | bad => exact h
theorem Go.bind {α β : Type} {G : Gx} {σ : St} {c : Cfg} {m : EM α} {g : α → EM β} {S : List Slot} {P : β → List Slot → Cfg → Prop} (h : Go G σ c (eBind m g S) P) :
    Go G σ c (m S) (fun a S1 c1 => Go G σ c1 (g a S1) P) := by
  unfold eBind at h
  cases q : m S with
  | ok a S' =>
    rw [q] at h
    exact fun c' s' o => Go.step h s'
  | ex e S' =>
    rw [q] at h
    exact h
  | bad =>
    rw [q] at h
    exact h.elim
/-- the value of data is wanted -/
abbrev VP (G : Gx) (Q : VK) : D → List Slot → Cfg → Prop := fun d _ c' => ∀ v, Rp G.K c'.Z v d → Q v c'.H
def tD (G : Gx) (f : EM D) : TE := fun σ H Q => ∃ S Z F, Holds G.K S σ ⟨Z, H, F⟩ ∧ Go G σ ⟨Z, H, F⟩ (f S) (VP G Q)
def tB' (G : Gx) (f : EM Bool) : TT := fun σ H Q => ∃ S Z F, Holds G.K S σ ⟨Z, H, F⟩ ∧ Go G σ ⟨Z, H, F⟩ (f S) (fun b _ c' => Q b c'.H)
def tDs (G : Gx) (f : EM (List D)) : TA := fun σ H Q => ∃ S Z F, Holds G.K S σ ⟨Z, H, F⟩ ∧ Go G σ ⟨Z, H, F⟩ (f S) (fun ds _ c' => ∀ vs, RpA G.K c'.Z vs ds → Q vs c'.H)
def GoS (G : Gx) (c : Cfg) (Q : Ends) : Out → Prop
  | .nx S => ∀ σ' c', Stp c c' → Holds G.K S σ' c' → Q.nx σ' c'.H
  | .rt d S => ∀ σ' c' v, Stp c c' → Holds G.K S σ' c' → Rp G.K c'.Z v d → Q.rt v c'.H
  | .bk S => ∀ σ' c', Stp c c' → Holds G.K S σ' c' → Q.bk σ' c'.H
  | .ct S => ∀ σ' c', Stp c c' → Holds G.K S σ' c' → Q.ct σ' c'.H
  | .ex e S => ∀ σ' c' cls dx, Stp c c' → Holds G.K S σ' c' → ExOk G.mg c'.Z e cls dx → G.W cls dx σ' c'.H
  | .bad => False
theorem GoS.step {G : Gx} {c c1 : Cfg} {Q : Ends} {r : Out} (h : GoS G c Q r) (s : Stp c c1) : GoS G c1 Q r := by
  cases r with
  | nx S => exact fun σ' c' s' o => h σ' c' (s.trans s') o
  | rt d S => exact fun σ' c' v s' o x => h σ' c' v (s.trans s') o x
  | bk S => exact fun σ' c' s' o => h σ' c' (s.trans s') o
  | ct S => exact fun σ' c' s' o => h σ' c' (s.trans s') o
  | ex e S => exact fun σ' c' cls dx s' o x => h σ' c' cls dx (s.trans s') o x
  | bad => exact h
def tS (G : Gx) (f : SM) : TS := fun Q σ H => ∃ S Z F, Holds G.K S σ ⟨Z, H, F⟩ ∧ GoS G ⟨Z, H, F⟩ Q (f S)
theorem Go.toS {α : Type} {G : Gx} {σ : St} {c : Cfg} {Q : Ends} {r : Er α} {k : α → List Slot → Out} {P : α → List Slot → Cfg → Prop}
    (h : GoS G c Q (match r with | .ok a S => k a S | .ex e S => .ex e S | .bad => .bad)) (i : ∀ a S c', Stp c c' → Holds G.K S σ c' → GoS G c' Q (k a S) → P a S c') : Go G σ c r P := by
  cases r with
  | ok a S => exact fun c' s o => i a S c' s o (h.step s)
  | ex e S => exact fun c' cls dx s o x => h σ c' cls dx s o x
  | bad => exact h.elim

/-! ### weaker readings -/
theorem PE.wk {X : Cx} {e : Expr} {t t' : TE} (h : PE X e t) (i : ∀ σ H Q, t' σ H Q → t σ H Q) : PE X e t' := ⟨fun pins s σ H Q I q => h.run pins s σ H Q I (i _ _ _ q)⟩
theorem PT.wk {X : Cx} {e : Expr} {t t' : TT} (h : PT X e t) (i : ∀ σ H Q, t' σ H Q → t σ H Q) : PT X e t' := ⟨fun pins s σ H Q I q => h.run pins s σ H Q I (i _ _ _ q)⟩
theorem PW.wk {X : Cx} {e : Expr} {t t' : TT} (h : PW X e t) (i : ∀ σ H Q, t' σ H Q → t σ H Q) : PW X e t' := ⟨fun wh pins s σ H Q I q => h.run wh pins s σ H Q I (i _ _ _ q)⟩
theorem PA.wk {X : Cx} {es : List Expr} {t t' : TA} (h : PA X es t) (i : ∀ σ H Q, t' σ H Q → t σ H Q) : PA X es t' := ⟨fun pos pins s σ H Q I q => h.run pos pins s σ H Q I (i _ _ _ q)⟩
theorem PS.wk {X : Cx} {st : Stmt} {t t' : TS} (h : PS X st t) (i : ∀ Q σ H, t' Q σ H → t Q σ H) : PS X st t' := ⟨fun pins s σ H Q I q => h.run pins s σ H Q I (i _ _ _ q)⟩
theorem PSs.wk {X : Cx} {st : List Stmt} {t t' : TS} (h : PSs X st t) (i : ∀ Q σ H, t' Q σ H → t Q σ H) : PSs X st t' := ⟨fun pins s σ H Q I q => h.run pins s σ H Q I (i _ _ _ q)⟩
end FW

/-! FwB: expressions. -/
namespace FW
open PySem PySem.Spec L2
open PyProof.Rows hiding St
abbrev gx (X : Cx) (W : WX) : Gx := ⟨X.K, X.mg, W⟩
section
variable {X : Cx} {W : WX}
def DE (X : Cx) (W : WX) (e : Expr) (f : EM D) : Prop := PE X e (tD (gx X W) f)
def DT (X : Cx) (W : WX) (e : Expr) (f : EM Bool) : Prop := PT X e (tB' (gx X W) f)
def DA (X : Cx) (W : WX) (es : List Expr) (f : EM (List D)) : Prop := PA X es (tDs (gx X W) f)

/-! ### names and constants -/
def eV (i : Nat) : EM D := fun S => match S[i]? with
  | some (.dat d) => .ok d S
  | some (.own ds) => .ok (.list ds) (S.set i (.dat (.list ds)))
  | some (.dic t es) => .ok (dictD t es) (S.set i (.dat (dictD t es)))
  | _ => .bad
theorem Holds.datAt {K : PySem.W.Frag} {S : List Slot} {σ : L2.St} {c : Cfg} {i : Nat} {d : D} (h : Holds K S σ c) (e : S[i]? = some (.dat d)) : ∃ v, σ[i]? = some (some v) ∧ Rp K c.Z v d := by
  obtain ⟨A, Fi, B, x, _, e2, ⟨_, v, e3, r⟩, _⟩ := h.l.at e
  subst e3
  exact ⟨v, e2, r⟩
theorem list_set_self {α : Type} {l : List α} {i : Nat} {x : α} (h : l[i]? = some x) : l.set i x = l := by
  apply List.ext_getElem?
  intro j
  rw [List.getElem?_set]
  split
  · rename_i e
    subst e
    rw [h]
    split
    · rfl
    · rename_i hn
      rw [List.getElem?_eq_none (by omega)] at h
      cases h
  · rfl
/-- a list that is held alone is given free: it stays as it is from now on -/
theorem Holds.freeze {K : PySem.W.Frag} {S : List Slot} {σ : L2.St} {c : Cfg} {i : Nat} {ds : List D} (h : Holds K S σ c) (e : S[i]? = some (.own ds)) :
    ∃ p c', σ[i]? = some (some (.ref p)) ∧ c'.H = c.H ∧ Stp c c' ∧ Holds K (S.set i (.dat (.list ds))) σ c' ∧ Rp K c'.Z (.ref p) (.list ds) := by
  obtain ⟨A, Fi, B, x, e1, e2, ⟨p, vs, e3, e4, e5, e6⟩, up⟩ := h.l.at e
  subst e3 e4
  have nd := h.nd
  have zf := h.zf
  rw [e1] at nd zf
  have hz : c.Z p = none := zf p (by simp)
  have sm : Same c.Z (upd c.Z p (.lst vs)) := same_upd hz
  have r : Rp K (upd c.Z p (.lst vs)) (.ref p) (.list ds) := .lst upd_same (e6.mono sm)
  refine ⟨p, ⟨upd c.Z p (.lst vs), c.H, A ++ B⟩, e2, rfl, ⟨sm, fun _ _ q _ => q, fun _ o q => ⟨o, q⟩, fun b o q => ?_, fun b m => .inl ?_⟩, ⟨?_, ?_, fun a m => ?_, fun b o q => ?_⟩, r⟩
  · by_cases hb : b = p
    · subst hb
      exact .inr (.inr (by rw [e1]; simp))
    · have q' : upd c.Z p (.lst vs) b = some o := q
      rw [upd_ne hb] at q'
      exact .inl q'
  · rw [e1]
    have m' : b ∈ A ++ B := m
    simp at m' ⊢
    rcases m' with m' | m' <;> simp [m']
  · have q := up ⟨upd c.Z p (.lst vs), c.H, A ++ B⟩ (.dat (.list ds)) (some (.ref p)) [] sm (fun _ _ => rfl) ⟨rfl, _, rfl, r⟩
    rw [list_set_self e2] at q
    exact q
  · show (A ++ B).Nodup
    simp only [List.nodup_append, List.nodup_cons, List.mem_append, List.mem_cons] at nd ⊢
    grind
  · have m' : a ∈ A ++ B := m
    have ne : a ≠ p := by
      rintro rfl
      simp only [List.nodup_append, List.nodup_cons, List.mem_append, List.mem_cons] at nd m'
      grind
    show upd c.Z p (.lst vs) a = none
    rw [upd_ne ne]
    exact zf a (by simp at m' ⊢; rcases m' with m' | m' <;> simp [m'])
  · have q' : upd c.Z p (.lst vs) b = some o := q
    by_cases hb : b = p
    · subst hb
      rw [upd_same] at q'
      rw [← q']
      exact e5
    · rw [upd_ne hb] at q'
      exact h.zh b o q'
/-- behind an expression a thing may be locked for good -/
def tFrz (t : TE) : TE := fun σ H Q => t σ H fun v H1 => Q v H1 ∨ ∃ d u, H1 d = some u ∧ Mut (some u) ∧ ∀ od, Q v (upd H1 d (.frz od u))
theorem pe_frz {e : Expr} {t : TE} (h : PE X e t) : PE X e (tFrz t) := by
  refine ⟨fun pins s σ H Q I hw => ?_⟩
  refine thn (h.run pins s σ _ _ I hw) fun v s1 ⟨x, H1, I1, r, q⟩ => ?_
  rcases q with q | ⟨d, u, hd, mu, q⟩
  · exact ⟨x, H1, I1, r, q⟩
  · obtain ⟨od, I2⟩ := I1.lock hd mu
    exact ⟨x, _, I2, r, q od⟩
theorem DicAt.lockR {K : PySem.W.Frag} {Z : Hp} {u : HO} {p : Addr} {o : Obj} : ∀ {t : Bool} {es : List (D × D)}, DicAt K Z (some u) t es → Z p = some (.frz o u) → Rp K Z (.ref p) (dictD t es)
  | false, _, ⟨ks, vs, ds, h1, h2, h3, h4⟩, e => by
    cases h1
    subst h4
    exact .dk e h2 h3
  | true, _, ⟨ks, vs, ds, h1, h2, h3, h4⟩, e => by
    cases h1
    subst h4
    exact .dt e h2 h3
/-- a dict that is held alone is given free -/
theorem Holds.freezeD {K : PySem.W.Frag} {S : List Slot} {σ : L2.St} {c : Cfg} {i : Nat} {t : Bool} {es : List (D × D)} (h : Holds K S σ c) (e : S[i]? = some (.dic t es)) :
    ∃ p u, σ[i]? = some (some (.ref p)) ∧ c.H p = some u ∧ Mut (some u) ∧ ∀ od, ∃ c', c'.H = upd c.H p (.frz od u) ∧ Stp c c' ∧ Holds K (S.set i (.dat (dictD t es))) σ c' ∧ Rp K c'.Z (.ref p) (dictD t es) := by
  obtain ⟨A, Fi, B, x, e1, e2, ⟨p, e3, e4, e5⟩, up⟩ := h.l.at e
  subst e3 e4
  obtain ⟨u, e6, mu, _⟩ := e5.obj
  refine ⟨p, u, e2, e6, mu, fun od => ?_⟩
  have nd := h.nd
  have zf := h.zf
  rw [e1] at nd zf
  have hz : c.Z p = none := zf p (by simp)
  have sm : Same c.Z (upd c.Z p (.frz od u)) := same_upd hz
  have r : Rp K (upd c.Z p (.frz od u)) (.ref p) (dictD t es) := by
    rw [e6] at e5
    exact (e5.mono sm).lockR upd_same
  have ne : ∀ a ∈ A ++ B, a ≠ p := fun a m => by
    rintro rfl
    simp only [List.nodup_append, List.nodup_cons, List.mem_append, List.mem_cons] at nd m
    grind
  refine ⟨⟨upd c.Z p (.frz od u), upd c.H p (.frz od u), A ++ B⟩, rfl, ⟨sm, fun b o q hn => ?_, fun b o q => ?_, fun b o q => ?_, fun b m => .inl ?_⟩, ⟨?_, ?_, fun a m => ?_, fun b o q => ?_⟩, r⟩
  · exact (upd_ne (show b ≠ p from fun z => hn (by rw [z, e1]; simp))).trans q
  · by_cases hb : b = p
    · subst hb
      exact ⟨_, upd_same⟩
    · exact ⟨o, (upd_ne hb).trans q⟩
  · by_cases hb : b = p
    · subst hb
      exact .inr (.inr (.inl (by rw [e1]; simp)))
    · have q' : upd c.Z p (.frz od u) b = some o := q
      rw [upd_ne hb] at q'
      exact .inl q'
  · rw [e1]
    have m' : b ∈ A ++ B := m
    simp at m' ⊢
    rcases m' with m' | m' <;> simp [m']
  · have q := up ⟨upd c.Z p (.frz od u), upd c.H p (.frz od u), A ++ B⟩ (.dat (dictD t es)) (some (.ref p)) [] sm (fun a m => upd_ne (ne a m)) ⟨rfl, _, rfl, r⟩
    rw [list_set_self e2] at q
    exact q
  · show (A ++ B).Nodup
    simp only [List.nodup_append, List.nodup_cons, List.mem_append, List.mem_cons] at nd ⊢
    grind
  · show upd c.Z p (.frz od u) a = none
    rw [upd_ne (ne a m)]
    exact zf a (by have m' : a ∈ A ++ B := m; simp at m' ⊢; rcases m' with m' | m' <;> simp [m'])
  · have q' : upd c.Z p (.frz od u) b = some o := q
    show upd c.H p (.frz od u) b = some o
    by_cases hb : b = p
    · subst hb
      rw [upd_same] at q' ⊢
      exact q'
    · rw [upd_ne hb] at q' ⊢
      exact h.zh b o q'
theorem de_v (i : Nat) {x : Str} {pos : Pos} (hN : X.N[i]? = some x := by rfl) (hv : Vis X.env.scope x := by first | exact Or.inl rfl | exact Or.inr (Or.inl rfl) | exact Or.inr (Or.inr rfl)) (hd : (x == ("__debug__" : Str)) = false := by decide)
    (hcd : (x == ("__classdict__" : Str)) = false := by decide) : DE X W (.Name x pos) (eV i) := by
  refine PE.wk (pe_frz (pe_var hN hv hd hcd)) fun σ H Q q => ?_
  obtain ⟨S, Z, F, h, g⟩ := q
  unfold eV at g
  cases e : S[i]? with
  | none => rw [e] at g; exact g.elim
  | some s =>
    rw [e] at g
    cases s with
    | un => exact g.elim
    | drw _ _ _ => exact g.elim
    | obj _ _ _ _ _ => exact g.elim
    | dic t es =>
      obtain ⟨p, u, e2, e3, mu, back⟩ := h.freezeD e
      refine ⟨.ref p, e2, .inr ⟨p, u, e3, mu, fun od => ?_⟩⟩
      obtain ⟨c', e4, st, h', r⟩ := back od
      have q := g c' st h' (.ref p) r
      rw [e4] at q
      exact q
    | dat d =>
      obtain ⟨v, e2, r⟩ := h.datAt e
      exact ⟨v, e2, .inl (g _ (Stp.refl _) h v r)⟩
    | own ds =>
      obtain ⟨p, c', e2, e3, st, h', r⟩ := h.freeze e
      refine ⟨.ref p, e2, .inl ?_⟩
      have q := g c' st h' (.ref p) r
      rw [e3] at q
      exact q
def eC (d : D) : EM D := eRet d
theorem de_c {e : Expr} {v : V} {d : D} (h : PE X e (L2.tC v)) (r : ∀ Z, Rp X.K Z v d) : DE X W e (eC d) := by
  refine PE.wk h fun σ H Q q => ?_
  obtain ⟨S, Z, F, h, g⟩ := q
  exact g _ (Stp.refl _) h v (r _)
theorem de_int {i j pos} : DE X W (.Constant (.int i) j pos) (eC (.int i)) := de_c pe_int fun _ => .int i
theorem de_bl {b j pos} : DE X W (.Constant (.bool b) j pos) (eC (.bool b)) := de_c pe_bl fun _ => .bl b
theorem de_non {j pos} : DE X W (.Constant .none j pos) (eC .none) := de_c pe_non fun _ => .non
theorem de_str {x j pos} : DE X W (.Constant (.str x) j pos) (eC (.str x)) := de_c pe_str fun _ => .str x

/-! ### operators by values -/
/-- data as an operand: a list may be one that a slot holds alone -/
inductive Lo (K : PySem.W.Frag) (c : Cfg) : V → D → Prop
  | z {v : V} {d : D} : Rp K c.Z v d → Lo K c v d
  | o {p : Addr} {vs : List V} {ds : List D} : c.H p = some (.lst vs) → RpA K c.Z vs ds → Lo K c (.ref p) (.list ds)
  | d {p : Addr} {t : Bool} {es : List (D × D)} : DicAt K c.Z (c.H p) t es → Lo K c (.ref p) (dictD t es)
theorem Lo.noneI {K : PySem.W.Frag} {c : Cfg} {x : V} (h : Lo K c x .none) : x = .non := by
  cases h with
  | z h => cases h; rfl
theorem Lo.boolI {K : PySem.W.Frag} {c : Cfg} {x : V} {b : Bool} (h : Lo K c x (.bool b)) : x = .bl b := by
  cases h with
  | z h => cases h; rfl
theorem Lo.intI {K : PySem.W.Frag} {c : Cfg} {x : V} {i : Int} (h : Lo K c x (.int i)) : x = .int i := by
  cases h with
  | z h => cases h; rfl
theorem Lo.strI {K : PySem.W.Frag} {c : Cfg} {x : V} {z : Str} (h : Lo K c x (.str z)) : x = .str z := by
  cases h with
  | z h => cases h; rfl
theorem Lo.tupI {K : PySem.W.Frag} {c : Cfg} {x : V} {ds : List D} (h : Lo K c x (.tuple ds)) : ∃ a xs, x = .ref a ∧ SqT K c.Z a xs ∧ RpA K c.Z xs ds := by
  cases h with
  | z h =>
    cases h with
    | tup h1 h2 => exact ⟨_, _, rfl, SqT.of h1, h2⟩
theorem Lo.lstI {K : PySem.W.Frag} {c : Cfg} {x : V} {ds : List D} (sm : Same c.Z c.H) (h : Lo K c x (.list ds)) : ∃ a xs, x = .ref a ∧ c.H a = some (.lst xs) ∧ RpA K c.Z xs ds := by
  cases h with
  | z h =>
    cases h with
    | lst h1 h2 => exact ⟨_, _, rfl, sm _ _ h1, h2⟩
  | o h1 h2 => exact ⟨_, _, rfl, h1, h2⟩
theorem noDict_dictD (t : Bool) (es : List (D × D)) : noDict (dictD t es) = false := rfl
theorem Lo.dp {K : PySem.W.Frag} {c : Cfg} {x : V} {d : D} (sm : Same c.Z c.H) (h : Lo K c x d) (n : noDict d = true) : Dp K c.H x d := by
  cases h with
  | z h => exact (h.mono sm).dp n
  | o h1 h2 => exact .lst (SqL.of h1) ((h2.mono sm).dp n)
  | d h1 => rw [noDict_dictD] at n; cases n
theorem Lo.tupZ {K : PySem.W.Frag} {c : Cfg} {x : V} {ds : List D} (h : Lo K c x (.tuple ds)) : Rp K c.Z x (.tuple ds) := by
  cases h with
  | z h => exact h
/-- it is None -/
def isNoneD : D → Bool
  | .none => true
  | _ => false
theorem Lo.isNone {K : PySem.W.Frag} {c : Cfg} {x : V} {d : D} (h : Lo K c x d) : decide (x = .non) = isNoneD d := by
  cases h with
  | z h => cases h <;> simp [isNoneD, obD]
  | o h1 h2 => simp [isNoneD]
  | d h1 => simp [isNoneD, dictD]
def tLo (G : Gx) (f : EM D) : TE := fun σ H Q => ∃ S Z F, Holds G.K S σ ⟨Z, H, F⟩ ∧ Go G σ ⟨Z, H, F⟩ (f S) (fun d _ c' => ∀ v, Lo G.K c' v d → Q v c'.H)
def DL (X : Cx) (W : WX) (e : Expr) (f : EM D) : Prop := PE X e (tLo (gx X W) f)
theorem dl_e {e : Expr} {f : EM D} (h : DE X W e f) : DL X W e f := PE.wk h fun σ H Q q => by
  obtain ⟨S, Z, F, h, q⟩ := q
  exact ⟨S, Z, F, h, q.mono fun d S1 c1 _ _ q1 v rv => q1 v (.z rv)⟩
/-- a list or a dict in a slot of its own, as an operand -/
def slotO : Slot → Option D
  | .own ds => some (.list ds)
  | .dic t es => some (dictD t es)
  | _ => none
def slotAt (S : List Slot) (i : Nat) : Option D := (S[i]?).bind slotO
def eVO (i : Nat) : EM D := fun S => match slotAt S i with
  | some d => .ok d S
  | none => .bad
theorem Holds.ownAt {K : PySem.W.Frag} {S : List Slot} {σ : L2.St} {c : Cfg} {i : Nat} {ds : List D} (h : Holds K S σ c) (e : S[i]? = some (.own ds)) : ∃ p vs, σ[i]? = some (some (V.ref p)) ∧ c.H p = some (.lst vs) ∧ RpA K c.Z vs ds ∧ p ∈ c.F := by
  obtain ⟨A, Fi, B, x, e1, e2, ⟨p, vs, e3, e4, e5, e6⟩, _⟩ := h.l.at e
  subst e3 e4
  exact ⟨p, vs, e2, e5, e6, by rw [e1]; simp⟩
theorem Holds.loAt {K : PySem.W.Frag} {S : List Slot} {σ : L2.St} {c : Cfg} {i : Nat} {d : D} (h : Holds K S σ c) (e : slotAt S i = some d) : ∃ p, σ[i]? = some (some (V.ref p)) ∧ Lo K c (.ref p) d := by
  unfold slotAt at e
  obtain ⟨s, e1, e2⟩ := Option.bind_eq_some_iff.mp e
  obtain ⟨A, Fi, B, x, e3, e4, q, _⟩ := h.l.at e1
  cases s with
  | own ds =>
    obtain ⟨p, vs, e5, e6, e7, e8⟩ := q
    cases e2
    subst e6
    exact ⟨p, e4, .o e7 e8⟩
  | dic t es =>
    obtain ⟨p, e5, e6, e7⟩ := q
    cases e2
    subst e6
    exact ⟨p, e4, .d e7⟩
  | un => cases e2
  | dat d => cases e2
  | drw _ _ _ => cases e2
  | obj _ _ _ _ _ => cases e2
theorem dl_o (i : Nat) {x : Str} {pos : Pos} (hN : X.N[i]? = some x := by rfl) (hv : Vis X.env.scope x := by first | exact Or.inl rfl | exact Or.inr (Or.inl rfl) | exact Or.inr (Or.inr rfl)) (hd : (x == ("__debug__" : Str)) = false := by decide)
    (hcd : (x == ("__classdict__" : Str)) = false := by decide) : DL X W (.Name x pos) (eVO i) := by
  refine PE.wk (pe_var hN hv hd hcd) fun σ H Q q => ?_
  obtain ⟨S, Z, F, h, g⟩ := q
  unfold eVO at g
  split at g
  · rename_i d e
    obtain ⟨p, e2, r⟩ := h.loAt e
    exact ⟨.ref p, e2, g _ (Stp.refl _) h _ r⟩
  · exact g.elim
/-- what an operation does with data -/
def OpD (X : Cx) (W : WX) (f : Value → Value → Sem Value) (g : D → D → Option D) : Prop := ∃ r : R2, OpR X f r ∧
  ∀ (x y : V) (a b d : D) (S : List Slot) (σ : L2.St) (c : Cfg) (Q : VK), g a b = some d → Holds X.K S σ c → Lo X.K c x a → Lo X.K c y b →
    (∀ c' v, Stp c c' → Holds X.K S σ c' → Rp X.K c'.Z v d → Q v c'.H) → r x y c.H Q
def eBin (g : D → D → Option D) (fa fb : EM D) : EM D := eBind fa fun a => eBind fb fun b => eOpt (g a b)
def eUn (g : D → Option D) (fa : EM D) : EM D := eBind fa fun a => eOpt (g a)
theorem Go.opt {α : Type} {G : Gx} {σ : L2.St} {c : Cfg} {o : Option α} {S : List Slot} {P : α → List Slot → Cfg → Prop} (h : Go G σ c (eOpt o S) P) : ∃ a, o = some a ∧ ∀ c', Stp c c' → Holds G.K S σ c' → P a S c' := by
  cases o with
  | none => exact h.elim
  | some a => exact ⟨a, rfl, h⟩
theorem bin_rd {r : R2} {g : D → D → Option D} {ea eb : Expr} {fa fb : EM D} (hr : ∀ (x y : V) (a b d : D) (S : List Slot) (σ : L2.St) (c : Cfg) (Q : VK), g a b = some d → Holds X.K S σ c → Lo X.K c x a → Lo X.K c y b →
    (∀ c' v, Stp c c' → Holds X.K S σ c' → Rp X.K c'.Z v d → Q v c'.H) → r x y c.H Q) (σ : L2.St) (H : Hp) (Q : VK) (q : tD (gx X W) (eBin g fa fb) σ H Q) : tOp r (tD (gx X W) fa) (tLo (gx X W) fb) σ H Q := by
  obtain ⟨S, Z, F, h, q⟩ := q
  refine ⟨S, Z, F, h, (Go.bind q).mono fun a S1 c1 s1 h1 q1 x rx => ?_⟩
  refine ⟨S1, c1.Z, c1.F, h1, (Go.bind q1).mono fun b S2 c2 s2 h2 q2 y ry => ?_⟩
  obtain ⟨d, e, k⟩ := Go.opt q2
  exact hr x y a b d S2 σ c2 Q e h2 (.z (rx.mono s2.z)) ry fun c' v st hh rv => k c' st hh v rv
theorem de_op {op : Operator} {g : D → D → Option D} {ea eb : Expr} {fa fb : EM D} {pos : Pos} (ho : OpD X W (binaryOp op) g) (ha : DE X W ea fa) (hb : DL X W eb fb) : DE X W (.BinOp ea op eb pos) (eBin g fa fb) := by
  obtain ⟨r, ho, hr⟩ := ho
  exact PE.wk (pe_op ho ha hb) (bin_rd (ea := ea) (eb := eb) hr)
theorem de_cmp {op : CmpOp} {g : D → D → Option D} {ea eb : Expr} {fa fb : EM D} {pos : Pos} (ho : OpD X W (compareOp op) g) (ha : DE X W ea fa) (hb : DL X W eb fb) (hm : behindInMarks op eb = false) : DE X W (.Compare ea [op] [eb] pos) (eBin g fa fb) := by
  obtain ⟨r, ho, hr⟩ := ho
  exact PE.wk (pe_cmpR ho ha hb hm) (bin_rd (ea := ea) (eb := eb) hr)
/-- the left operand a list in a slot of its own -/
def eBinO (g : D → D → Option D) (i : Nat) (fb : EM D) : EM D := fun S0 => match slotAt S0 i with
  | some _ => eBind fb (fun b S => match slotAt S i with
    | some a => eOpt (g a b) S
    | none => .bad) S0
  | none => .bad
theorem binO_rd {r : R2} {g : D → D → Option D} {i : Nat} {fb : EM D} (hr : ∀ (x y : V) (a b d : D) (S : List Slot) (σ : L2.St) (c : Cfg) (Q : VK), g a b = some d → Holds X.K S σ c → Lo X.K c x a → Lo X.K c y b →
    (∀ c' v, Stp c c' → Holds X.K S σ c' → Rp X.K c'.Z v d → Q v c'.H) → r x y c.H Q) (σ : L2.St) (H : Hp) (Q : VK) (q : tD (gx X W) (eBinO g i fb) σ H Q) : tOp r (tVar i) (tD (gx X W) fb) σ H Q := by
  obtain ⟨S, Z, F, h, q⟩ := q
  unfold eBinO at q
  split at q
  · rename_i d0 e0
    obtain ⟨p0, e2, _⟩ := h.loAt e0
    refine ⟨.ref p0, e2, S, Z, F, h, (Go.bind q).mono fun b S1 c1 s1 h1 q1 y ry => ?_⟩
    split at q1
    · rename_i a e1
      obtain ⟨p1, e3, r1⟩ := h1.loAt e1
      rw [e2] at e3
      cases e3
      obtain ⟨d, e, k⟩ := Go.opt q1
      exact hr _ y _ b d S1 σ c1 Q e h1 r1 (.z ry) fun c' v st hh rv => k c' st hh v rv
    · exact q1.elim
  · exact q.elim
theorem de_opO {op : Operator} {g : D → D → Option D} (i : Nat) {x : Str} {p : Pos} {eb : Expr} {fb : EM D} {pos : Pos} (ho : OpD X W (binaryOp op) g) (hb : DE X W eb fb) (hN : X.N[i]? = some x := by rfl) (hv : Vis X.env.scope x := by first | exact Or.inl rfl | exact Or.inr (Or.inl rfl) | exact Or.inr (Or.inr rfl)) (hd : (x == ("__debug__" : Str)) = false := by decide)
    (hcd : (x == ("__classdict__" : Str)) = false := by decide) : DE X W (.BinOp (.Name x p) op eb pos) (eBinO g i fb) := by
  obtain ⟨r, ho, hr⟩ := ho
  exact PE.wk (pe_op ho (pe_var hN hv hd hcd) hb) (binO_rd hr)
theorem de_cmpO {op : CmpOp} {g : D → D → Option D} (i : Nat) {x : Str} {p : Pos} {eb : Expr} {fb : EM D} {pos : Pos} (ho : OpD X W (compareOp op) g) (hb : DE X W eb fb) (hm : behindInMarks op eb = false) (hN : X.N[i]? = some x := by rfl) (hv : Vis X.env.scope x := by first | exact Or.inl rfl | exact Or.inr (Or.inl rfl) | exact Or.inr (Or.inr rfl)) (hd : (x == ("__debug__" : Str)) = false := by decide)
    (hcd : (x == ("__classdict__" : Str)) = false := by decide) : DE X W (.Compare (.Name x p) [op] [eb] pos) (eBinO g i fb) := by
  obtain ⟨r, ho, hr⟩ := ho
  exact PE.wk (pe_cmpR ho (pe_var hN hv hd hcd) hb hm) (binO_rd hr)
/-- data as a truth value -/
def asB : D → Option Bool
  | .bool b => some b
  | _ => none
def bOf (f : EM D) : EM Bool := eBind f fun d => eOpt (asB d)
theorem bof_rd {f : EM D} (σ : L2.St) (H : Hp) (Q : Bool → Hp → Prop) (q : tB' (gx X W) (bOf f) σ H Q) : tD (gx X W) f σ H fun x H' => ∃ k, x = .bl k ∧ Q k H' := by
  obtain ⟨S, Z, F, h, q⟩ := q
  refine ⟨S, Z, F, h, (Go.bind q).mono fun a S1 c1 s1 h1 q1 x rx => ?_⟩
  obtain ⟨d, e, k⟩ := Go.opt q1
  cases a with
  | bool b =>
    cases rx
    cases e
    exact ⟨_, rfl, k c1 (Stp.refl _) h1⟩
  | _ => cases e
theorem dt_cmp {op : CmpOp} {g : D → D → Option D} {ea eb : Expr} {fa fb : EM D} {pos : Pos} (ho : OpD X W (compareOp op) g) (ha : DE X W ea fa) (hb : DL X W eb fb) (hm : behindInMarks op eb = false) : DT X W (.Compare ea [op] [eb] pos) (bOf (eBin g fa fb)) := by
  obtain ⟨r, ho, hr⟩ := ho
  exact PT.wk (pt_cmpR ho ha hb hm) fun σ H Q q => bin_rd (ea := ea) (eb := eb) hr σ H _ (bof_rd σ H Q q)
theorem dt_cmpO {op : CmpOp} {g : D → D → Option D} (i : Nat) {x : Str} {p : Pos} {eb : Expr} {fb : EM D} {pos : Pos} (ho : OpD X W (compareOp op) g) (hb : DE X W eb fb) (hm : behindInMarks op eb = false) (hN : X.N[i]? = some x := by rfl) (hv : Vis X.env.scope x := by first | exact Or.inl rfl | exact Or.inr (Or.inl rfl) | exact Or.inr (Or.inr rfl)) (hd : (x == ("__debug__" : Str)) = false := by decide)
    (hcd : (x == ("__classdict__" : Str)) = false := by decide) : DT X W (.Compare (.Name x p) [op] [eb] pos) (bOf (eBinO g i fb)) := by
  obtain ⟨r, ho, hr⟩ := ho
  exact PT.wk (pt_cmpR ho (pe_var hN hv hd hcd) hb hm) fun σ H Q q => binO_rd hr σ H _ (bof_rd σ H Q q)
theorem dt_val {e : Expr} {f : EM D} (h : DE X W e f) (he : ∀ whole, isTrue e X.env whole = (do let v ← whole; standAt e.pos; holding [v] (truthy v)) := by intro _; rfl) : DT X W e (bOf f) :=
  PT.wk (pt_val h he) fun σ H Q q => bof_rd σ H Q q
/-- and, or, not -/
def bAnd (f g : EM Bool) : EM Bool := eBind f fun b => if b then g else eRet false
def bOr (f g : EM Bool) : EM Bool := eBind f fun b => if b then eRet true else g
def bNot (f : EM Bool) : EM Bool := eBind f fun b => eRet (!b)
def DW (X : Cx) (W : WX) (e : Expr) (f : EM Bool) : Prop := PW X e (tB' (gx X W) f)
variable {a b : Expr} {rest : List Expr} {fa fb : EM Bool} {pos : Pos}
theorem dw_and1 (ha : DT X W a fa) : DW X W (.BoolOp .And [a] pos) fa := pw_and1 ha
theorem dw_or1 (ha : DT X W a fa) : DW X W (.BoolOp .Or [a] pos) fa := pw_or1 ha
theorem dw_and (ha : DT X W a fa) (hb : DW X W (.BoolOp .And (b :: rest) pos) fb) : DW X W (.BoolOp .And (a :: b :: rest) pos) (bAnd fa fb) := by
  refine PW.wk (pw_and ha hb) fun σ H Q q => ?_
  obtain ⟨S, Z, F, h, q⟩ := q
  refine ⟨S, Z, F, h, (Go.bind q).mono fun k S1 c1 s1 h1 q1 => ?_⟩
  cases k with
  | true => exact ⟨S1, c1.Z, c1.F, h1, q1⟩
  | false => exact q1 _ (Stp.refl _) h1
theorem dw_or (ha : DT X W a fa) (hb : DW X W (.BoolOp .Or (b :: rest) pos) fb) : DW X W (.BoolOp .Or (a :: b :: rest) pos) (bOr fa fb) := by
  refine PW.wk (pw_or ha hb) fun σ H Q q => ?_
  obtain ⟨S, Z, F, h, q⟩ := q
  refine ⟨S, Z, F, h, (Go.bind q).mono fun k S1 c1 s1 h1 q1 => ?_⟩
  cases k with
  | false => exact ⟨S1, c1.Z, c1.F, h1, q1⟩
  | true => exact q1 _ (Stp.refl _) h1
theorem dt_w {e : Expr} {f : EM Bool} (h : DW X W e f) : DT X W e f := PW.pt h
theorem dt_not (ha : DT X W a fa) : DT X W (.UnaryOp .Not a pos) (bNot fa) := by
  refine PT.wk (pt_not ha) fun σ H Q q => ?_
  obtain ⟨S, Z, F, h, q⟩ := q
  exact ⟨S, Z, F, h, (Go.bind q).mono fun k S1 c1 s1 h1 q1 => q1 _ (Stp.refl _) h1⟩
/-- .. as values -/
def eAnd (f g : EM D) : EM D := eBind f fun d => match d with | .bool true => g | .bool false => eRet (.bool false) | _ => fun _ => .bad
def eOr (f g : EM D) : EM D := eBind f fun d => match d with | .bool true => eRet (.bool true) | .bool false => g | _ => fun _ => .bad
def eNot (f : EM D) : EM D := eBind f fun d => match d with | .bool b => eRet (.bool (!b)) | _ => fun _ => .bad
variable {ga gb : EM D}
theorem de_one {op} (h : DE X W a ga) : DE X W (.BoolOp op [a] pos) ga := pe_one h
theorem de_and (ha : DE X W a ga) (hb : DE X W (.BoolOp .And (b :: rest) pos) gb) : DE X W (.BoolOp .And (a :: b :: rest) pos) (eAnd ga gb) := by
  refine PE.wk (pe_and ha hb) fun σ H Q q => ?_
  obtain ⟨S, Z, F, h, q⟩ := q
  refine ⟨S, Z, F, h, (Go.bind q).mono fun k S1 c1 s1 h1 q1 x rx => ?_⟩
  cases k with
  | bool k =>
    cases rx
    refine ⟨_, rfl, ?_⟩
    cases k with
    | true => exact ⟨S1, c1.Z, c1.F, h1, q1⟩
    | false => exact q1 _ (Stp.refl _) h1 _ (.bl _)
  | _ => exact q1.elim
theorem de_or (ha : DE X W a ga) (hb : DE X W (.BoolOp .Or (b :: rest) pos) gb) : DE X W (.BoolOp .Or (a :: b :: rest) pos) (eOr ga gb) := by
  refine PE.wk (pe_or ha hb) fun σ H Q q => ?_
  obtain ⟨S, Z, F, h, q⟩ := q
  refine ⟨S, Z, F, h, (Go.bind q).mono fun k S1 c1 s1 h1 q1 x rx => ?_⟩
  cases k with
  | bool k =>
    cases rx
    refine ⟨_, rfl, ?_⟩
    cases k with
    | false => exact ⟨S1, c1.Z, c1.F, h1, q1⟩
    | true => exact q1 _ (Stp.refl _) h1 _ (.bl _)
  | _ => exact q1.elim
theorem de_not (ha : DE X W a ga) : DE X W (.UnaryOp .Not a pos) (eNot ga) := by
  refine PE.wk (pe_not ha) fun σ H Q q => ?_
  obtain ⟨S, Z, F, h, q⟩ := q
  refine ⟨S, Z, F, h, (Go.bind q).mono fun k S1 c1 s1 h1 q1 x rx => ?_⟩
  cases k with
  | bool k =>
    cases rx
    exact ⟨_, rfl, q1 _ (Stp.refl _) h1 _ (.bl _)⟩
  | _ => exact q1.elim
/-- a if t else b -/
def eIf (t : EM Bool) (f g : EM D) : EM D := eBind t fun b => if b then f else g
theorem de_if {c : Expr} (hc : DT X W c fa) (ha : DE X W a ga) (hb : DE X W b gb) : DE X W (.IfExp c a b pos) (eIf fa ga gb) := by
  refine PE.wk (pe_ifExp hc ha hb) fun σ H Q q => ?_
  obtain ⟨S, Z, F, h, q⟩ := q
  refine ⟨S, Z, F, h, (Go.bind q).mono fun k S1 c1 s1 h1 q1 => ?_⟩
  cases k with
  | true => exact ⟨S1, c1.Z, c1.F, h1, q1⟩
  | false => exact ⟨S1, c1.Z, c1.F, h1, q1⟩

/-! ### argument lists, displays -/
def aNil : EM (List D) := eRet []
def aCons (f : EM D) (g : EM (List D)) : EM (List D) := eBind f fun d => eBind g fun ds => eRet (d :: ds)
theorem da_nil : DA X W [] aNil := by
  refine PA.wk pa_nil fun σ H Q q => ?_
  obtain ⟨S, Z, F, h, q⟩ := q
  exact q _ (Stp.refl _) h [] .nil
theorem da_cons {e : Expr} {es : List Expr} {f : EM D} {g : EM (List D)} (ha : DE X W e f) (hr : DA X W es g) (hs : starEach (e :: es) X.env = (false, eval e X.env) :: starEach es X.env := by rfl) : DA X W (e :: es) (aCons f g) := by
  refine PA.wk (pa_cons ha hr hs) fun σ H Q q => ?_
  obtain ⟨S, Z, F, h, q⟩ := q
  refine ⟨S, Z, F, h, (Go.bind q).mono fun d S1 c1 s1 h1 q1 x rx => ?_⟩
  refine ⟨S1, c1.Z, c1.F, h1, (Go.bind q1).mono fun ds S2 c2 s2 h2 q2 xs rs => ?_⟩
  exact q2 _ (Stp.refl _) h2 (x :: xs) (.cons (rx.mono s2.z) rs)
def small (n : Nat) : Bool := decide (n ≤ sizeLine)
def eTup (f : EM (List D)) : EM D := eBind f fun ds => if small ds.length then eRet (.tuple ds) else fun _ => .bad
def eLst (f : EM (List D)) : EM D := eBind f fun ds => if small ds.length then eRet (.list ds) else fun _ => .bad
theorem Holds.layL {S : List Slot} {σ : L2.St} {c : Cfg} {K : PySem.W.Frag} {xs : List V} {ds : List D} (h : Holds K S σ c) {p : Addr} (hp : c.H p = none) (r : RpA K c.Z xs ds) :
    Stp c (c.lay p (.lst xs)) ∧ Holds K S σ (c.lay p (.lst xs)) ∧ Rp K (c.lay p (.lst xs)).Z (.ref p) (.list ds) := by
  obtain ⟨s, q⟩ := h.lay (o := .lst xs) hp
  exact ⟨s, q, .lst upd_same (r.mono s.z)⟩
theorem Holds.layT {S : List Slot} {σ : L2.St} {c : Cfg} {K : PySem.W.Frag} {xs : List V} {ds : List D} (h : Holds K S σ c) {p : Addr} (hp : c.H p = none) (r : RpA K c.Z xs ds) :
    Stp c (c.lay p (.tup xs)) ∧ Holds K S σ (c.lay p (.tup xs)) ∧ Rp K (c.lay p (.tup xs)).Z (.ref p) (.tuple ds) := by
  obtain ⟨s, q⟩ := h.lay (o := .tup xs) hp
  exact ⟨s, q, .tup upd_same (r.mono s.z)⟩
theorem de_tup {es : List Expr} {x1} {f : EM (List D)} (ha : DA X W es f) : DE X W (.Tuple es x1 pos) (eTup f) := by
  refine PE.wk (pe_tup ha) fun σ H Q q => ?_
  obtain ⟨S, Z, F, h, q⟩ := q
  refine ⟨S, Z, F, h, (Go.bind q).mono fun ds S1 c1 s1 h1 q1 xs rs => ?_⟩
  by_cases hs : small ds.length = true
  · rw [if_pos hs] at q1
    refine ⟨by rw [rs.length]; exact of_decide_eq_true hs, fun p hp => ?_⟩
    obtain ⟨s2, h2, r2⟩ := h1.layT hp rs
    exact q1 _ s2 h2 _ r2
  · rw [if_neg hs] at q1
    exact q1.elim
theorem de_lst {es : List Expr} {f : EM (List D)} (ha : DA X W es f) : DE X W (.List es pos) (eLst f) := by
  refine PE.wk (pe_lst ha) fun σ H Q q => ?_
  obtain ⟨S, Z, F, h, q⟩ := q
  refine ⟨S, Z, F, h, (Go.bind q).mono fun ds S1 c1 s1 h1 q1 xs rs => ?_⟩
  by_cases hs : small ds.length = true
  · rw [if_pos hs] at q1
    refine ⟨by rw [rs.length]; exact of_decide_eq_true hs, fun p hp => ?_⟩
    obtain ⟨s2, h2, r2⟩ := h1.layL hp rs
    exact q1 _ s2 h2 _ r2
  · rw [if_neg hs] at q1
    exact q1.elim
end
end FW

/-! FwC: what is walked, targets, comprehensions, statements, loops. -/
namespace FW
open PySem PySem.Spec L2
open PyProof.Rows hiding St
abbrev Sg := L2.St
section
variable {X : Cx} {W : WX} {pos : Pos}

/-! ### what is walked -/
structure ItOk (K : PySem.W.Frag) (Z0 : Hp) (J : It) (ds : List D) : Prop where
  go : ∀ (i : Nat) (c : Cfg) (S : List Slot) (σ : Sg), i < ds.length → Same Z0 c.Z → Holds K S σ c → J.go i c.H ∧
    ∀ x H', J.yld i c.H x H' → ∃ c' d, c'.H = H' ∧ ds[i]? = some d ∧ Stp c c' ∧ Holds K S σ c' ∧ Rp K c'.Z x d
  stop : ∀ (i : Nat) (c : Cfg) (S : List Slot) (σ : Sg), ds.length ≤ i → Same Z0 c.Z → Holds K S σ c → J.stop i c.H
def tI (G : Gx) (m : EM (List D)) : TI := fun σ H R => ∃ S Z F, Holds G.K S σ ⟨Z, H, F⟩ ∧ Go G σ ⟨Z, H, F⟩ (m S) (fun ds _ c' => ∀ J, ItOk G.K c'.Z J ds → R J c'.H)
def DI (X : Cx) (W : WX) (tg iter : Expr) (m : EM (List D)) : Prop := PI X tg iter (tI (gx X W) m)
theorem PI.wk {tg iter : Expr} {t t' : TI} (h : PI X tg iter t) (i : ∀ σ H R, t' σ H R → t σ H R) : PI X tg iter t' := ⟨fun pins s σ H R I q => h.run pins s σ H R I (i _ _ _ q)⟩
theorem ItOk.rng (K : PySem.W.Frag) (Z0 : Hp) (lo : Int) (n : Nat) : ItOk K Z0 (Itr lo n) ((List.range n).map fun i => PyData.int (lo + (i : Nat))) where
  go := fun i c S σ hi _ h => by
    rw [List.length_map, List.length_range] at hi
    refine ⟨hi, fun x H' y => ?_⟩
    obtain ⟨e1, e2⟩ := y
    subst e1 e2
    refine ⟨c, _, rfl, ?_, Stp.refl _, h, .int _⟩
    rw [List.getElem?_map, List.getElem?_range hi]
    rfl
  stop := fun i c S σ hi _ _ => by
    rw [List.length_map, List.length_range] at hi
    exact hi
theorem ItOk.rngC (K : PySem.W.Frag) (Z0 : Hp) (lo st : Int) (n : Nat) : ItOk K Z0 (Itc lo st n) ((List.range n).map fun i => PyData.int (lo + (i : Nat) * st)) where
  go := fun i c S σ hi _ h => by
    rw [List.length_map, List.length_range] at hi
    refine ⟨hi, fun x H' y => ?_⟩
    obtain ⟨e1, e2⟩ := y
    subst e1 e2
    refine ⟨c, _, rfl, ?_, Stp.refl _, h, .int _⟩
    rw [List.getElem?_map, List.getElem?_range hi]
    rfl
  stop := fun i c S σ hi _ _ => by
    rw [List.length_map, List.length_range] at hi
    exact hi
theorem ItOk.lst {K : PySem.W.Frag} {Z0 : Hp} {a : Addr} {xs : List V} {ds : List D} (ha : Z0 a = some (.lst xs)) (r : RpA K Z0 xs ds) : ItOk K Z0 (Itl K a) ds where
  go := fun i c S σ hi sm h => by
    have hq : SqL K c.H a xs := SqL.of (h.zh _ _ (sm _ _ ha))
    obtain ⟨v, e, rv⟩ := r.get (List.getElem?_eq_getElem hi)
    refine ⟨⟨xs, v, hq, e⟩, fun x H' y => ?_⟩
    obtain ⟨e1, y⟩ := y
    subst e1
    have ev := Option.some.inj ((y xs hq).symm.trans e)
    subst ev
    exact ⟨c, _, rfl, List.getElem?_eq_getElem hi, Stp.refl _, h, rv.mono sm⟩
  stop := fun i c S σ hi sm h => ⟨xs, SqL.of (h.zh _ _ (sm _ _ ha)), by rw [r.length]; exact hi⟩
theorem ItOk.tup {K : PySem.W.Frag} {Z0 : Hp} {a : Addr} {xs : List V} {ds : List D} (ha : SqT K Z0 a xs) (r : RpA K Z0 xs ds) : ItOk K Z0 (Itt K a) ds where
  go := fun i c S σ hi sm h => by
    have hq : SqT K c.H a xs := sameT h.zh (sameT sm ha)
    obtain ⟨v, e, rv⟩ := r.get (List.getElem?_eq_getElem hi)
    refine ⟨⟨xs, v, hq, e⟩, fun x H' y => ?_⟩
    obtain ⟨e1, y⟩ := y
    subst e1
    have ev := Option.some.inj ((y xs hq).symm.trans e)
    subst ev
    exact ⟨c, _, rfl, List.getElem?_eq_getElem hi, Stp.refl _, h, rv.mono sm⟩
  stop := fun i c S σ hi sm h => ⟨xs, sameT h.zh (sameT sm ha), by rw [r.length]; exact hi⟩
/-- the items of a list; of a tuple -/
def itemsL : D → Option (List D)
  | .list ds => some ds
  | _ => none
def itemsT : D → Option (List D)
  | .tuple ds => some ds
  | _ => none
def iL (f : EM D) : EM (List D) := eBind f fun d => eOpt (itemsL d)
def iT (f : EM D) : EM (List D) := eBind f fun d => eOpt (itemsT d)
theorem di_list {tg e : Expr} {f : EM D} (he : DE X W e f) : DI X W tg e (iL f) := by
  refine PI.wk (pi_list he) fun σ H R q => ?_
  obtain ⟨S, Z, F, h, q⟩ := q
  refine ⟨S, Z, F, h, (Go.bind q).mono fun d S1 c1 s1 h1 q1 x rx => ?_⟩
  obtain ⟨ds, e, k⟩ := Go.opt q1
  cases d with
  | list ds' =>
    cases e
    cases rx with
    | lst r1 r2 => exact ⟨_, rfl, ⟨_, SqL.of (h1.zh _ _ r1)⟩, k c1 (Stp.refl _) h1 _ (ItOk.lst r1 r2)⟩
  | _ => cases e
theorem di_tup {tg e : Expr} {f : EM D} (he : DE X W e f) : DI X W tg e (iT f) := by
  refine PI.wk (pi_tup he) fun σ H R q => ?_
  obtain ⟨S, Z, F, h, q⟩ := q
  refine ⟨S, Z, F, h, (Go.bind q).mono fun d S1 c1 s1 h1 q1 x rx => ?_⟩
  obtain ⟨ds, e, k⟩ := Go.opt q1
  cases d with
  | tuple ds' =>
    cases e
    cases rx with
    | tup r1 r2 => exact ⟨_, rfl, ⟨_, sameT h1.zh (SqT.of r1)⟩, k c1 (Stp.refl _) h1 _ (ItOk.tup (SqT.of r1) r2)⟩
  | _ => cases e
def big62 (i : Int) : Bool := decide (-(2 ^ 62) ≤ i) && decide (i < 2 ^ 62)
theorem big62_ok {i : Int} (h : big62 i = true) : -(2 ^ 62) ≤ i ∧ i < 2 ^ 62 := by
  unfold big62 at h
  rw [Bool.and_eq_true] at h
  exact ⟨of_decide_eq_true h.1, of_decide_eq_true h.2⟩
def intsD (lo : Int) (n : Nat) : List D := (List.range n).map fun i => PyData.int (lo + (i : Nat))
def intsC (lo st : Int) (n : Nat) : List D := (List.range n).map fun i => PyData.int (lo + (i : Nat) * st)
def rng1 : List D → Option (List D)
  | [.int j] => if big62 j then some (intsD 0 j.toNat) else none
  | _ => none
def rng2 : List D → Option (List D)
  | [.int i, .int j] => if big62 i && big62 j then some (intsD i (j - i).toNat) else none
  | _ => none
def iR1 (f : EM (List D)) : EM (List D) := eBind f fun ds => eOpt (rng1 ds)
def iR2 (f : EM (List D)) : EM (List D) := eBind f fun ds => eOpt (rng2 ds)
theorem RpA.i1 {K : PySem.W.Frag} {Z : Hp} {vs : List V} {i : Int} (h : RpA K Z vs [.int i]) : vs = [.int i] := by
  cases h with
  | cons h1 h2 =>
    cases h1
    cases h2
    rfl
theorem RpA.i2 {K : PySem.W.Frag} {Z : Hp} {vs : List V} {i j : Int} (h : RpA K Z vs [.int i, .int j]) : vs = [.int i, .int j] := by
  cases h with
  | cons h1 h2 =>
    cases h1
    rw [RpA.i1 h2]
theorem RpA.i3 {K : PySem.W.Frag} {Z : Hp} {vs : List V} {i j k : Int} (h : RpA K Z vs [.int i, .int j, .int k]) : vs = [.int i, .int j, .int k] := by
  cases h with
  | cons h1 h2 =>
    cases h1
    rw [RpA.i2 h2]
theorem rng1_some {ds es : List D} (h : rng1 ds = some es) : ∃ j, ds = [.int j] ∧ big62 j = true ∧ es = intsD 0 j.toNat := by
  unfold rng1 at h
  split at h
  · split at h
    · rename_i j hb
      exact ⟨j, rfl, hb, (Option.some.inj h).symm⟩
    · cases h
  · cases h
theorem rng2_some {ds es : List D} (h : rng2 ds = some es) : ∃ i j, ds = [.int i, .int j] ∧ big62 i = true ∧ big62 j = true ∧ es = intsD i (j - i).toNat := by
  unfold rng2 at h
  split at h
  · split at h
    · rename_i i j hb
      rw [Bool.and_eq_true] at hb
      exact ⟨i, j, rfl, hb.1, hb.2, (Option.some.inj h).symm⟩
    · cases h
  · cases h
theorem di_range1 {tg a : Expr} {f : EM (List D)} {p pos : Pos} (hg : Gl X "range") (hm : X.mg "range" = none) (ha : DA X W [a] f) (hs : starEach [a] X.env = [(false, eval a X.env)] := by rfl) : DI X W tg (.Call (.Name "range" p) [a] [] pos) (iR1 f) := by
  refine PI.wk (pi_range1 hg hm ha hs) fun σ H R q => ?_
  obtain ⟨S, Z, F, h, q⟩ := q
  refine ⟨S, Z, F, h, (Go.bind q).mono fun ds S1 c1 s1 h1 q1 vs rs => ?_⟩
  obtain ⟨es, e, k⟩ := Go.opt q1
  obtain ⟨j, rfl, hb, rfl⟩ := rng1_some e
  obtain ⟨b1, b2⟩ := big62_ok hb
  refine ⟨j, rs.i1, b1, b2, k c1 (Stp.refl _) h1 _ (ItOk.rng _ _ 0 j.toNat)⟩
theorem di_range2 {tg a b : Expr} {f : EM (List D)} {p pos : Pos} (hg : Gl X "range") (hm : X.mg "range" = none) (ha : DA X W [a, b] f) (hs : starEach [a, b] X.env = [(false, eval a X.env), (false, eval b X.env)] := by rfl) (hs2 : starEach [b] X.env = [(false, eval b X.env)] := by rfl) :
    DI X W tg (.Call (.Name "range" p) [a, b] [] pos) (iR2 f) := by
  refine PI.wk (pi_range2 hg hm ha hs hs2) fun σ H R q => ?_
  obtain ⟨S, Z, F, h, q⟩ := q
  refine ⟨S, Z, F, h, (Go.bind q).mono fun ds S1 c1 s1 h1 q1 vs rs => ?_⟩
  obtain ⟨es, e, k⟩ := Go.opt q1
  obtain ⟨i, j, rfl, hb, hb', rfl⟩ := rng2_some e
  obtain ⟨b1, b2⟩ := big62_ok hb
  obtain ⟨b3, b4⟩ := big62_ok hb'
  refine ⟨i, j, rs.i2, ⟨b1, b2, b3, b4⟩, k c1 (Stp.refl _) h1 _ (ItOk.rng _ _ i _)⟩

/-! ### targets -/
abbrev Tg := D → List Slot → Option (List Slot)
def Only (is : List Nat) (σ σ' : Sg) : Prop := ∀ vs, (∀ i ∈ is, i ∈ vs) → wipe σ' vs = wipe σ vs
def tG (G : Gx) (is : List Nat) (g : Tg) : TG := fun v σ H Q => ∃ S Z F d S', Holds G.K S σ ⟨Z, H, F⟩ ∧ Rp G.K Z v d ∧ g d S = some S' ∧
  ∀ σ' c', Stp ⟨Z, H, F⟩ c' → Holds G.K S' σ' c' → Only is σ σ' → Q σ' c'.H
def DG (X : Cx) (W : WX) (tg : Expr) (is : List Nat) (g : Tg) : Prop := PG X tg (tG (gx X W) is g)
theorem PG.wk {tg : Expr} {t t' : TG} (h : PG X tg t) (i : ∀ v σ H Q, t' v σ H Q → t v σ H Q) : PG X tg t' := ⟨fun pins s σ H v u Q I r q => h.run pins s σ H v u Q I r (i _ _ _ _ q)⟩
theorem wipe_set {σ : Sg} {i : Nat} {x : Option V} : ∀ {vs : List Nat}, i ∈ vs → wipe (σ.set i x) vs = wipe σ vs := by
  intro vs
  induction vs with
  | nil => intro h; simp at h
  | cons v vs ih =>
    intro h
    unfold wipe
    by_cases hm : i ∈ vs
    · rw [ih hm]
    · rcases List.mem_cons.mp h with e | e
      · subst e
        have key : ∀ (ws : List Nat), i ∉ ws → wipe (σ.set i x) ws = (wipe σ ws).set i x := by
          intro ws
          induction ws with
          | nil => intro _; rfl
          | cons w ws ih2 =>
            intro hn
            simp only [List.mem_cons, not_or] at hn
            unfold wipe
            rw [ih2 hn.2, List.set_comm _ _ hn.1]
        rw [key vs hm, List.set_set]
      · exact absurd e hm
theorem Only.set (σ : Sg) (i : Nat) (x : Option V) : Only [i] σ (σ.set i x) := fun vs h => wipe_set (h i (by simp))
theorem Only.refl (σ : Sg) (is : List Nat) : Only is σ σ := fun _ _ => rfl
theorem Only.trans {σ σ1 σ2 : Sg} {is js : List Nat} (a : Only is σ σ1) (b : Only js σ1 σ2) : Only (is ++ js) σ σ2 := fun vs h =>
  (b vs fun i m => h i (List.mem_append_right _ m)).trans (a vs fun i m => h i (List.mem_append_left _ m))
/-- data into a slot -/
theorem Holds.setD {K : PySem.W.Frag} {S : List Slot} {σ : Sg} {c : Cfg} {i : Nat} {v : V} {d : D} (h : Holds K S σ c) (hi : i < S.length) (r : Rp K c.Z v d) :
    ∃ F', Stp c ⟨c.Z, c.H, F'⟩ ∧ Holds K (S.set i (.dat d)) (σ.set i (some v)) ⟨c.Z, c.H, F'⟩ := by
  obtain ⟨A, Fi, B, x, e1, e2, _, up⟩ := h.l.at (List.getElem?_eq_getElem hi)
  have sub : ∀ b ∈ A ++ B, b ∈ c.F := fun b m => by
    rw [e1]
    simp at m ⊢
    rcases m with m | m <;> simp [m]
  refine ⟨A ++ B, ⟨Same.refl _, fun _ _ q _ => q, fun _ o q => ⟨o, q⟩, fun _ _ q => .inl q, fun b m => .inl (sub b m)⟩, ⟨?_, ?_, fun a m => h.zf a (sub a m), h.zh⟩⟩
  · exact up ⟨c.Z, c.H, A ++ B⟩ (.dat d) (some v) [] (Same.refl _) (fun _ _ => rfl) ⟨rfl, v, rfl, r⟩
  · have nd := h.nd
    rw [e1] at nd
    show (A ++ B).Nodup
    simp only [List.nodup_append, List.mem_append] at nd ⊢
    grind
def gN (i : Nat) : Tg := fun d S => if i < S.length then some (S.set i (.dat d)) else none
theorem dg_name {x : Str} {pos : Pos} (i : Nat) (hN : X.N.Nodup) (hi : X.N[i]? = some x) (hx : Loc X.env.scope x) (hf : X.fn x = true ∨ X.env.scope.names.lookup x = some .local := by first | exact .inl rfl | exact .inr rfl | assumption) : DG X W (.Name x pos) [i] (gN i) := by
  refine PG.wk (pg_name hN hi hx hf) fun v σ H Q q => ?_
  obtain ⟨S, Z, F, d, S', h, r, e, q⟩ := q
  unfold gN at e
  split at e
  · rename_i hl
    cases e
    obtain ⟨F', st, h'⟩ := h.setD hl r
    exact q _ _ st h' (Only.set _ _ _)
  · cases e
def gNs : List Nat → List D → List Slot → Option (List Slot)
  | [], [], S => some S
  | i :: is, d :: ds, S => (gN i d S).bind fun S' => gNs is ds S'
  | _, _, _ => none
def DGs (X : Cx) (W : WX) (tgs : List Expr) (is : List Nat) (t : List D → List Slot → Option (List Slot)) : Prop :=
  PGs X tgs (fun vs σ H Q => ∃ S Z F ds S', Holds X.K S σ ⟨Z, H, F⟩ ∧ RpA X.K Z vs ds ∧ t ds S = some S' ∧ ∀ σ' c', Stp ⟨Z, H, F⟩ c' → Holds X.K S' σ' c' → Only is σ σ' → Q σ' c'.H)
theorem PGs.wk {tg : List Expr} {t t' : TGs} (h : PGs X tg t) (i : ∀ v σ H Q, t' v σ H Q → t v σ H Q) : PGs X tg t' := ⟨fun pins s σ H v u Q I r q => h.run pins s σ H v u Q I r (i _ _ _ _ q)⟩
def gsNil : List D → List Slot → Option (List Slot) := fun ds S => match ds with | [] => some S | _ => none
def gsCons (g : Tg) (t : List D → List Slot → Option (List Slot)) : List D → List Slot → Option (List Slot) := fun ds S => match ds with | d :: ds => (g d S).bind fun S' => t ds S' | _ => none
theorem dgs_nil : DGs X W [] [] gsNil := by
  refine PGs.wk pgs_nil fun vs σ H Q q => ?_
  obtain ⟨S, Z, F, ds, S', h, r, e, q⟩ := q
  cases ds with
  | nil =>
    cases r
    cases e
    exact ⟨rfl, q _ _ (Stp.refl _) h (Only.refl _ _)⟩
  | cons _ _ => cases e
theorem dgs_cons {e : Expr} {es : List Expr} {is js : List Nat} {g : Tg} {t : List D → List Slot → Option (List Slot)} (h1 : DG X W e is g) (h2 : DGs X W es js t)
    (hs : (assignEach (e :: es) X.env).map (·.2) = assign e X.env :: (assignEach es X.env).map (·.2) := by rfl) : DGs X W (e :: es) (is ++ js) (gsCons g t) := by
  refine PGs.wk (pgs_cons h1 h2 hs) fun vs σ H Q q => ?_
  obtain ⟨S, Z, F, ds, S', h, r, e, q⟩ := q
  cases ds with
  | nil => cases e
  | cons d ds =>
    cases r with
    | cons r1 r2 =>
      have e' : (g d S).bind (fun S' => t ds S') = some S' := e
      cases hg : g d S with
      | none => rw [hg] at e'; cases e'
      | some S1 =>
        rw [hg] at e'
        refine ⟨_, _, rfl, S, Z, F, d, S1, h, r1, hg, fun σ1 c1 st h1 o1 => ?_⟩
        exact ⟨S1, c1.Z, c1.F, ds, S', h1, r2.mono st.z, e', fun σ2 c2 st2 h2 o2 => q σ2 c2 (st.trans st2) h2 (o1.trans o2)⟩
def gT (t : List D → List Slot → Option (List Slot)) (n : Nat) : Tg := fun d S => match d with | .tuple ds => if ds.length = n then t ds S else none | _ => none
def gL (t : List D → List Slot → Option (List Slot)) (n : Nat) : Tg := fun d S => match d with | .list ds => if ds.length = n then t ds S else none | _ => none
theorem dg_tup {es : List Expr} {k : Nat} {is : List Nat} {t : List D → List Slot → Option (List Slot)} {n : Nat} (hc : X.calm = true) (h : DGs X W es is t)
    (hn : (assignEach es X.env).length = n := by rfl) (hst : (assignEach es X.env).findIdx? (·.1) = none := by rfl) : DG X W (.Tuple es k pos) is (gT t n) := by
  refine PG.wk (pg_tup hc h hn hst) fun v σ H Q q => ?_
  obtain ⟨S, Z, F, d, S', h, r, e, q⟩ := q
  cases d with
  | tuple ds =>
    have e' : (if ds.length = n then t ds S else none) = some S' := e
    split at e'
    · rename_i hl
      cases r with
      | tup r1 r2 => exact ⟨_, _, rfl, sameT h.zh (SqT.of r1), by rw [r2.length]; exact hl, S, Z, F, ds, S', h, r2, e', q⟩
    · cases e'
  | _ => cases e
theorem dg_unl {es : List Expr} {k : Nat} {is : List Nat} {t : List D → List Slot → Option (List Slot)} {n : Nat} (hc : X.calm = true) (h : DGs X W es is t)
    (hn : (assignEach es X.env).length = n := by rfl) (hst : (assignEach es X.env).findIdx? (·.1) = none := by rfl) : DG X W (.Tuple es k pos) is (gL t n) := by
  refine PG.wk (pg_unl hc h hn hst) fun v σ H Q q => ?_
  obtain ⟨S, Z, F, d, S', h, r, e, q⟩ := q
  cases d with
  | list ds =>
    have e' : (if ds.length = n then t ds S else none) = some S' := e
    split at e'
    · rename_i hl
      cases r with
      | lst r1 r2 => exact ⟨_, _, rfl, SqL.of (h.zh _ _ r1), by rw [r2.length]; exact hl, S, Z, F, ds, S', h, r2, e', q⟩
    · cases e'
  | _ => cases e

/-! ### statements -/
def DS (X : Cx) (W : WX) (st : Stmt) (f : SM) : Prop := PS X st (tS (gx X W) f)
def DSs (X : Cx) (W : WX) (st : List Stmt) (f : SM) : Prop := PSs X st (tS (gx X W) f)
def sNx : SM := fun S => .nx S
def sSeq (f g : SM) : SM := fun S => match f S with
  | .nx S' => g S'
  | o => o
theorem ds_nil : DSs X W [] sNx := by
  refine PSs.wk pss_nil fun Q σ H q => ?_
  obtain ⟨S, Z, F, h, q⟩ := q
  exact q _ _ (Stp.refl _) h
theorem ds_cons {st : Stmt} {rest : List Stmt} {f g : SM} (h1 : DS X W st f) (h2 : DSs X W rest g) : DSs X W (st :: rest) (sSeq f g) := by
  refine PSs.wk (pss_cons h1 h2) fun Q σ H q => ?_
  obtain ⟨S, Z, F, h, q⟩ := q
  refine ⟨S, Z, F, h, ?_⟩
  unfold sSeq at q
  cases e : f S with
  | nx S' =>
    rw [e] at q
    exact fun σ' c' st h' => ⟨S', c'.Z, c'.F, h', GoS.step q st⟩
  | rt d S' => rw [e] at q; exact q
  | bk S' => rw [e] at q; exact q
  | ct S' => rw [e] at q; exact q
  | ex x S' => rw [e] at q; exact q
  | bad => rw [e] at q; exact q.elim
def sPass : SM := fun S => .nx S
def sBrk : SM := fun S => .bk S
def sCnt : SM := fun S => .ct S
theorem ds_pass : DS X W (.Pass pos) sPass := PS.wk ps_pass fun Q σ H ⟨S, Z, F, h, q⟩ => q _ _ (Stp.refl _) h
theorem ds_break : DS X W (.Break pos) sBrk := PS.wk ps_break fun Q σ H ⟨S, Z, F, h, q⟩ => q _ _ (Stp.refl _) h
theorem ds_continue : DS X W (.Continue pos) sCnt := PS.wk ps_continue fun Q σ H ⟨S, Z, F, h, q⟩ => q _ _ (Stp.refl _) h
/-- an expression's end becomes a statement's -/
def sOf {α : Type} (m : EM α) (k : α → List Slot → Out) : SM := fun S => match m S with
  | .ok a S' => k a S'
  | .ex e S' => .ex e S'
  | .bad => .bad
def sExpr (f : EM D) : SM := sOf f fun _ S => .nx S
def sRet (f : EM D) : SM := sOf f fun d S => .rt d S
def sRetN : SM := fun S => .rt .none S
theorem ds_expr {e : Expr} {f : EM D} (he : DE X W e f) (hs : swapsWith e none pos.line X.env = pure false := by rfl) : DS X W (.Expr e pos) (sExpr f) := by
  refine PS.wk (ps_expr he hs) fun Q σ H q => ?_
  obtain ⟨S, Z, F, h, q⟩ := q
  exact ⟨S, Z, F, h, Go.toS q fun a S1 c1 s1 h1 q1 v rv => q1 _ _ (Stp.refl _) h1⟩
theorem ds_ret {e : Expr} {f : EM D} (he : DE X W e f) : DS X W (.Return (some e) pos) (sRet f) := by
  refine PS.wk (ps_ret he) fun Q σ H q => ?_
  obtain ⟨S, Z, F, h, q⟩ := q
  exact ⟨S, Z, F, h, Go.toS q fun a S1 c1 s1 h1 q1 v rv => q1 _ _ _ (Stp.refl _) h1 rv⟩
theorem ds_retN : DS X W (.Return none pos) sRetN := PS.wk ps_retN fun Q σ H ⟨S, Z, F, h, q⟩ => q _ _ _ (Stp.refl _) h .non
def sIf (t : EM Bool) (f g : SM) : SM := sOf t fun b S => if b then f S else g S
theorem ds_if {c : Expr} {a b : List Stmt} {t : EM Bool} {f g : SM} (hc : DT X W c t) (ha : DSs X W a f) (hb : DSs X W b g) : DS X W (.If c a b pos) (sIf t f g) := by
  refine PS.wk (ps_if hc ha hb) fun Q σ H q => ?_
  obtain ⟨S, Z, F, h, q⟩ := q
  refine ⟨S, Z, F, h, Go.toS q fun k S1 c1 s1 h1 q1 => ?_⟩
  cases k with
  | true => exact ⟨S1, c1.Z, c1.F, h1, q1⟩
  | false => exact ⟨S1, c1.Z, c1.F, h1, q1⟩
/-- target = value -/
def sAsg (f : EM D) (g : Tg) : SM := sOf f fun d S => match g d S with | some S' => .nx S' | none => .bad
theorem asg_rd {f : EM D} {g : Tg} {is : List Nat} (Q : Ends) (σ : Sg) (H : Hp) (q : tS (gx X W) (sAsg f g) Q σ H) : tAsg (tD (gx X W) f) (tG (gx X W) is g) Q σ H := by
  obtain ⟨S, Z, F, h, q⟩ := q
  refine ⟨S, Z, F, h, Go.toS q fun d S1 c1 s1 h1 q1 v rv => ?_⟩
  cases e : g d S1 with
  | none => rw [e] at q1; exact q1.elim
  | some S2 =>
    rw [e] at q1
    exact ⟨S1, c1.Z, c1.F, d, S2, h1, rv, e, fun σ' c' st h' _ => q1 σ' c' st h'⟩
theorem ds_asg {tg e : Expr} {f : EM D} {is : List Nat} {g : Tg} (he : DE X W e f) (hg : DG X W tg is g) (hs : swapsWithSole [tg] e pos.line X.env = pure false := by rfl) (hw : swappedStores [tg] e X.env = pure none := by rfl)
    (h1 : (assignEach [tg] X.env).map (·.2) = [assign tg X.env] := by rfl) : DS X W (.Assign [tg] e pos) (sAsg f g) := PS.wk (ps_asg he hg hs hw h1) asg_rd
def sSet (i : Nat) (f : EM D) : SM := sAsg f (gN i)
theorem ds_set (i : Nat) {x : Str} {e : Expr} {f : EM D} {pos' : Pos} (hN : X.N.Nodup) (he : DE X W e f) (hi : X.N[i]? = some x := by rfl) (hx : Loc X.env.scope x := by first | exact Or.inl rfl | exact Or.inr rfl) (hs : swapsWith e (some (.Name x pos')) pos.line X.env = pure false := by rfl)
    (hf : X.fn x = true ∨ X.env.scope.names.lookup x = some .local := by first | exact .inl rfl | exact .inr rfl | assumption) : DS X W (.Assign [.Name x pos'] e pos) (sSet i f) := by
  refine PS.wk (ps_set hN hi hx he hs hf) fun Q σ H q => ?_
  obtain ⟨S, Z, F, h, q⟩ := q
  refine ⟨S, Z, F, h, Go.toS q fun d S1 c1 s1 h1 q1 v rv => ?_⟩
  unfold gN at q1
  by_cases hl : i < S1.length
  · rw [if_pos hl] at q1
    obtain ⟨F', st, h'⟩ := h1.setD hl rv
    exact q1 _ ⟨c1.Z, c1.H, F'⟩ st h'
  · rw [if_neg hl] at q1
    exact q1.elim
/-- a, b = x, y -/
def gTwo (i j : Nat) : List D → List Slot → Option (List Slot) := fun ds S => match ds with
  | [a, b] => (gN i a S).bind fun S' => gN j b S'
  | _ => none
def sPar (i j : Nat) (f : EM (List D)) : SM := sOf f fun ds S => match gTwo i j ds S with | some S' => .nx S' | none => .bad
theorem ds_par (i j : Nat) {x y : Str} {a b : Expr} {f : EM (List D)} {px py pt : Pos} {kt k2 pt2} (hc : X.calm = true) (hN : X.N.Nodup) (ha : DA X W [a, b] f) (hij : i ≠ j) (hi : X.N[i]? = some x := by rfl) (hj : X.N[j]? = some y := by rfl)
    (hx : X.env.scope.names.lookup x = some .local := by rfl) (hy : X.env.scope.names.lookup y = some .local := by rfl)
    (hw : swappedStores [.Tuple [.Name x px, .Name y py] kt pt] (.Tuple [a, b] k2 pt2) X.env = pure (some [x, y]) := by rfl)
    (hs : swapsWithSole [.Tuple [.Name x px, .Name y py] kt pt] (.Tuple [a, b] k2 pt2) pos.line X.env = pure false := by rfl) :
    DS X W (.Assign [.Tuple [.Name x px, .Name y py] kt pt] (.Tuple [a, b] k2 pt2) pos) (sPar i j f) := by
  refine PS.wk (ps_par hc hN hi hj hij hx hy ha hw hs) fun Q σ H q => ?_
  obtain ⟨S, Z, F, h, q⟩ := q
  refine ⟨S, Z, F, h, Go.toS q fun ds S1 c1 s1 h1 q1 vs rs => ?_⟩
  match ds, rs with
  | [], _ => exact q1.elim
  | [_], _ => exact q1.elim
  | [d1, d2], .cons r1 (.cons r2 .nil) =>
    refine ⟨_, _, rfl, ?_⟩
    cases e : gTwo i j [d1, d2] S1 with
    | none => rw [e] at q1; exact q1.elim
    | some S2 =>
      rw [e] at q1
      have e' : (gN i d1 S1).bind (fun S' => gN j d2 S') = some S2 := e
      obtain ⟨S3, e1, e2⟩ := Option.bind_eq_some_iff.mp e'
      unfold gN at e1 e2
      split at e1
      · rename_i hl
        cases e1
        split at e2
        · rename_i hl2
          cases e2
          obtain ⟨F', st, h'⟩ := h1.setD hl r1
          obtain ⟨F2, st2, h2⟩ := h'.setD hl2 r2
          exact q1 _ ⟨c1.Z, c1.H, F2⟩ (st.trans st2) h2
        · cases e2
      · cases e1
  | _ :: _ :: _ :: _, _ => exact q1.elim
/-- x op= e for data -/
def sAug (i : Nat) (g : D → D → Option D) (f : EM D) : SM := fun S => match S[i]? with
  | some (.dat a) => sOf f (fun b S' => match g a b with | some d => .nx (S'.set i (.dat d)) | none => .bad) S
  | _ => .bad
def IpD (X : Cx) (op : Operator) (g : D → D → Option D) : Prop := ∃ t : TIp, PIp X op t ∧
  ∀ (x y : V) (a b d : D) (S : List Slot) (σ : Sg) (c : Cfg) (Q : VK), g a b = some d → Holds X.K S σ c → Rp X.K c.Z x a → Rp X.K c.Z y b →
    (∀ c' v, Stp c c' → Holds X.K S σ c' → Rp X.K c'.Z v d → Q v c'.H) → t x y c.H Q
theorem ds_aug (i : Nat) {x : Str} {e : Expr} {f : EM D} {op : Operator} {g : D → D → Option D} {pos' : Pos} (hN : X.N.Nodup) (ho : IpD X op g) (he : DE X W e f) (hi : X.N[i]? = some x := by rfl) (hx : Loc X.env.scope x := by first | exact Or.inl rfl | exact Or.inr rfl)
    (hf : X.fn x = true ∨ X.env.scope.names.lookup x = some .local := by first | exact .inl rfl | exact .inr rfl | assumption) : DS X W (.AugAssign (.Name x pos') op e pos) (sAug i g f) := by
  obtain ⟨t, ho, hr⟩ := ho
  refine PS.wk (ps_aug hN hi hx he ho hf) fun Q σ H q => ?_
  obtain ⟨S, Z, F, h, q⟩ := q
  unfold sAug at q
  split at q
  · rename_i a es
    obtain ⟨v, e2, r⟩ := h.datAt es
    refine ⟨v, e2, S, Z, F, h, Go.toS q fun b S1 c1 s1 h1 q1 y ry => ?_⟩
    cases eg : g a b with
    | none => rw [eg] at q1; exact q1.elim
    | some d =>
      rw [eg] at q1
      refine hr v y a b d S1 σ c1 _ eg h1 (r.mono s1.z) ry fun c2 z s2 h2 rz => ?_
      have hl : i < S1.length := by
        have l1 := h1.l.len
        have l0 := h.l.len
        have : i < S.length := by
          rcases Nat.lt_or_ge i S.length with z | z
          · exact z
          · rw [List.getElem?_eq_none z] at es; cases es
        omega
      obtain ⟨F', st, h'⟩ := h2.setD hl rz
      exact q1 _ ⟨c2.Z, c2.H, F'⟩ (s2.trans st) h'
  · exact q.elim

/-! ### loops -/
def forL (g : Tg) (body : SM) : List D → SM
  | [], S => .nx S
  | d :: ds, S => match g d S with
    | none => .bad
    | some S1 => match body S1 with
      | .nx S2 => forL g body ds S2
      | .ct S2 => forL g body ds S2
      | .bk S2 => .nx S2
      | o => o
def sFor (src : EM (List D)) (g : Tg) (body : SM) : SM := sOf src fun ds S => forL g body ds S
theorem ds_for {tg iter : Expr} {body : List Stmt} {m : EM (List D)} {is : List Nat} {g : Tg} {f : SM} (hp : PassesOwn (model X.prog X.w) X.A X.env X.xe) (hc : X.calm = true) (hi : DI X W tg iter m) (hg : DG X W tg is g) (hb : DSs X W body f)
    (hs : ∀ x, foldedSetIterable iter X.env x = pure x := by intro _; rfl) : DS X W (.For tg iter body [] pos) (sFor m g f) := by
  refine PS.wk (ps_for hp hc hi hg hb hs) fun Q σ H q => ?_
  obtain ⟨S, Z, F, h, q⟩ := q
  refine ⟨S, Z, F, h, Go.toS q fun ds S1 c1 s1 h1 q1 J it => ?_⟩
  refine ⟨fun i m σ' H' => m = ds.length - i ∧ i ≤ ds.length ∧ ∃ S' c', c'.H = H' ∧ Same c1.Z c'.Z ∧ Holds X.K S' σ' c' ∧ GoS (gx X W) c' Q (forL g f (ds.drop i) S'), ⟨ds.length, by simp, by simp, S1, c1, rfl, Same.refl _, h1, q1⟩, fun i m σ' H' w => ?_⟩
  obtain ⟨em, hi, S', c', eH, sm, h', q'⟩ := w
  subst eH
  by_cases hlt : i < ds.length
  · obtain ⟨go, yld⟩ := it.go i c' S' σ' hlt sm h'
    refine .inr ⟨go, fun σ2 H2 => ∃ S2 c2, c2.H = H2 ∧ Same c1.Z c2.Z ∧ Holds X.K S2 σ2 c2 ∧ GoS (gx X W) c2 Q (forL g f (ds.drop (i + 1)) S2), fun σ2 H2 n => ?_, fun x H2 y => ?_⟩
    · obtain ⟨S2, c2, e2, sm2, h2, q2⟩ := n
      exact ⟨ds.length - (i + 1), by omega, rfl, hlt, S2, c2, e2, sm2, h2, q2⟩
    · obtain ⟨c2, d, e2, ed, st2, h2, rd⟩ := yld x H2 y
      subst e2
      have dr : ds.drop i = d :: ds.drop (i + 1) := by
        rw [List.drop_eq_getElem_cons hlt]
        rw [List.getElem?_eq_getElem hlt] at ed
        rw [Option.some.inj ed]
      rw [dr] at q'
      unfold forL at q'
      cases eg : g d S' with
      | none => rw [eg] at q'; exact q'.elim
      | some S3 =>
        rw [eg] at q'
        refine ⟨S', c2.Z, c2.F, d, S3, h2, rd, eg, fun σ3 c3 st3 h3 _ => ?_⟩
        refine ⟨S3, c3.Z, c3.F, h3, ?_⟩
        have st13 : Stp c' c3 := st2.trans st3
        cases eb : f S3 with
        | nx S4 =>
          simp only [eb] at q'
          exact fun σ4 c4 st4 h4 => ⟨S4, c4, rfl, sm.trans (st13.trans st4).z, h4, GoS.step q' (st13.trans st4)⟩
        | ct S4 =>
          simp only [eb] at q'
          exact fun σ4 c4 st4 h4 => ⟨S4, c4, rfl, sm.trans (st13.trans st4).z, h4, GoS.step q' (st13.trans st4)⟩
        | bk S4 =>
          simp only [eb] at q'
          exact fun σ4 c4 st4 h4 => q' σ4 c4 (st13.trans st4) h4
        | rt v S4 =>
          simp only [eb] at q'
          exact fun σ4 c4 v st4 h4 => q' σ4 c4 v (st13.trans st4) h4
        | ex x S4 =>
          simp only [eb] at q'
          exact fun σ4 c4 cls dx st4 h4 => q' σ4 c4 cls dx (st13.trans st4) h4
        | bad =>
          simp only [eb] at q'
          exact q'.elim
  · have e : ds.drop i = [] := List.drop_eq_nil_of_le (by omega)
    rw [e] at q'
    exact .inl ⟨it.stop i c' S' σ' (by omega) sm h', q' σ' c' (Stp.refl _) h'⟩
def whileL (t : EM Bool) (body : SM) : Nat → SM
  | 0, _ => .bad
  | n + 1, S => match t S with
    | .ok true S1 => match body S1 with
      | .nx S2 => whileL t body n S2
      | .ct S2 => whileL t body n S2
      | .bk S2 => .nx S2
      | o => o
    | .ok false S1 => .nx S1
    | .ex e S1 => .ex e S1
    | .bad => .bad
def sWhile (n : Nat) (t : EM Bool) (body : SM) : SM := whileL t body n
theorem ds_while (n : Nat) {c : Expr} {body : List Stmt} {t : EM Bool} {f : SM} (hp : PassesOwn (model X.prog X.w) X.A X.env X.xe) (hc : DT X W c t) (hb : DSs X W body f) : DS X W (.While c body [] pos) (sWhile n t f) := by
  refine PS.wk (ps_while hp hc hb) fun Q σ H q => ?_
  obtain ⟨S, Z, F, h, q⟩ := q
  refine ⟨fun m σ' H' => ∃ S' c', c'.H = H' ∧ Holds X.K S' σ' c' ∧ GoS (gx X W) c' Q (whileL t f m S'), ⟨n, S, _, rfl, h, q⟩, fun m σ' H' w => ?_⟩
  obtain ⟨S', c', eH, h', q'⟩ := w
  subst eH
  cases m with
  | zero => exact q'.elim
  | succ m =>
    refine ⟨S', c'.Z, c'.F, h', ?_⟩
    unfold whileL at q'
    cases et : t S' with
    | bad => rw [et] at q'; exact q'.elim
    | ex e S1 =>
      rw [et] at q'
      exact fun c1 cls dx st h1 x => q' _ c1 cls dx st h1 x
    | ok b S1 =>
      rw [et] at q'
      intro c1 st h1
      cases b with
      | false => exact q' _ c1 st h1
      | true =>
        refine ⟨fun σ2 H2 => ∃ S2 c2, c2.H = H2 ∧ Holds X.K S2 σ2 c2 ∧ GoS (gx X W) c2 Q (whileL t f m S2), fun σ2 H2 ⟨S2, c2, e2, h2, q2⟩ => ⟨m, by omega, S2, c2, e2, h2, q2⟩, S1, c1.Z, c1.F, h1, ?_⟩
        cases eb : f S1 with
        | nx S4 =>
          simp only [eb] at q'
          exact fun σ4 c4 st4 h4 => ⟨S4, c4, rfl, h4, GoS.step q' (st.trans st4)⟩
        | ct S4 =>
          simp only [eb] at q'
          exact fun σ4 c4 st4 h4 => ⟨S4, c4, rfl, h4, GoS.step q' (st.trans st4)⟩
        | bk S4 =>
          simp only [eb] at q'
          exact fun σ4 c4 st4 h4 => q' σ4 c4 (st.trans st4) h4
        | rt v S4 =>
          simp only [eb] at q'
          exact fun σ4 c4 v st4 h4 => q' σ4 c4 v (st.trans st4) h4
        | ex x S4 =>
          simp only [eb] at q'
          exact fun σ4 c4 cls dx st4 h4 => q' σ4 c4 cls dx (st.trans st4) h4
        | bad =>
          simp only [eb] at q'
          exact q'.elim
end
end FW

/-! FwD: comprehensions, defs, calls. -/
namespace FW
open PySem PySem.Spec L2
open PyProof.Rows hiding St
section
variable {X : Cx} {W : WX} {pos : Pos}

/-! ### fresh lists -/
def tF (G : Gx) (f : EM (List D)) : TE := fun σ H Q => ∃ S Z F, Holds G.K S σ ⟨Z, H, F⟩ ∧ Go G σ ⟨Z, H, F⟩ (f S) (fun ds _ c' => ∀ p vs, c'.H p = none → RpA G.K c'.Z vs ds → Q (.ref p) (upd c'.H p (.lst vs)))
def DF (X : Cx) (W : WX) (e : Expr) (f : EM (List D)) : Prop := PE X e (tF (gx X W) f)
def eFz (f : EM (List D)) : EM D := eBind f fun ds => eRet (.list ds)
theorem de_f {e : Expr} {f : EM (List D)} (h : DF X W e f) : DE X W e (eFz f) := by
  refine PE.wk h fun σ H Q q => ?_
  obtain ⟨S, Z, F, h, q⟩ := q
  refine ⟨S, Z, F, h, (Go.bind q).mono fun ds S1 c1 s1 h1 q1 p vs hp rs => ?_⟩
  obtain ⟨s2, h2, r2⟩ := h1.layL hp rs
  exact q1 _ s2 h2 _ r2
/-- a fresh thing into a slot of its own -/
theorem Holds.setU {K : PySem.W.Frag} {S : List Slot} {σ : Sg} {c : Cfg} {i : Nat} {p : Addr} {u : HO} {sl : Slot} (h : Holds K S σ c) (hi : i < S.length) (hp : c.H p = none) (r : ∀ F', SlotOk K ⟨c.Z, upd c.H p u, F'⟩ sl (some (.ref p)) [p]) :
    ∃ F', Stp c ⟨c.Z, upd c.H p u, F'⟩ ∧ Holds K (S.set i sl) (σ.set i (some (.ref p))) ⟨c.Z, upd c.H p u, F'⟩ := by
  obtain ⟨A, Fi, B, x, e1, e2, _, up⟩ := h.l.at (List.getElem?_eq_getElem hi)
  have hF := h.nF hp
  rw [e1] at hF
  simp only [List.mem_append, not_or] at hF
  refine ⟨A ++ ([p] ++ B), ⟨Same.refl _, fun b o q _ => same_upd hp b o q, fun b o q => ⟨o, same_upd hp b o q⟩, fun _ _ q => .inl q, fun b m => ?_⟩, ⟨?_, ?_, fun a m => ?_, h.zh.trans (same_upd hp)⟩⟩
  · have m' : b ∈ A ++ ([p] ++ B) := m
    simp only [List.mem_append, List.mem_singleton] at m'
    rw [e1]
    rcases m' with m' | m' | m'
    · exact .inl (by simp [m'])
    · subst m'
      exact .inr hp
    · exact .inl (by simp [m'])
  · refine up ⟨c.Z, upd c.H p u, A ++ ([p] ++ B)⟩ sl (some (.ref p)) [p] (Same.refl _) (fun a m => ?_) (r _)
    have ne : a ≠ p := by
      rintro rfl
      rcases List.mem_append.mp m with m | m
      · exact hF.1 m
      · exact hF.2.2 m
    exact upd_ne ne
  · have nd := h.nd
    rw [e1] at nd
    show (A ++ ([p] ++ B)).Nodup
    simp only [List.nodup_append, List.mem_append, List.mem_singleton, List.nodup_cons] at nd ⊢
    grind
  · have m' : a ∈ A ++ ([p] ++ B) := m
    simp only [List.mem_append, List.mem_singleton] at m'
    rcases m' with m' | m' | m'
    · exact h.zf a (by rw [e1]; simp [m'])
    · subst m'
      exact h.nf hp
    · exact h.zf a (by rw [e1]; simp [m'])
theorem Holds.setO {K : PySem.W.Frag} {S : List Slot} {σ : Sg} {c : Cfg} {i : Nat} {p : Addr} {vs : List V} {ds : List D} (h : Holds K S σ c) (hi : i < S.length) (hp : c.H p = none) (r : RpA K c.Z vs ds) :
    ∃ F', Stp c ⟨c.Z, upd c.H p (.lst vs), F'⟩ ∧ Holds K (S.set i (.own ds)) (σ.set i (some (.ref p))) ⟨c.Z, upd c.H p (.lst vs), F'⟩ := h.setU hi hp fun F' => ⟨p, vs, rfl, rfl, upd_same, r⟩
def sOwn (i : Nat) (f : EM (List D)) : SM := sOf f fun ds S => if i < S.length then .nx (S.set i (.own ds)) else .bad
theorem own_rd {f : EM (List D)} {i : Nat} (Q : Ends) (σ : Sg) (H : Hp) (q : tS (gx X W) (sOwn i f) Q σ H) : tAsg (tF (gx X W) f) (gName i) Q σ H := by
  obtain ⟨S, Z, F, h, q⟩ := q
  refine ⟨S, Z, F, h, Go.toS q fun ds S1 c1 s1 h1 q1 p vs hp rs => ?_⟩
  split at q1
  · rename_i hl
    obtain ⟨F', st, h'⟩ := h1.setO hl hp rs
    exact q1 _ ⟨c1.Z, upd c1.H p (.lst vs), F'⟩ st h'
  · exact q1.elim
theorem ds_own (i : Nat) {x : Str} {e : Expr} {f : EM (List D)} {pos' : Pos} (hN : X.N.Nodup) (he : DF X W e f) (hi : X.N[i]? = some x := by rfl) (hx : Loc X.env.scope x := by first | exact Or.inl rfl | exact Or.inr rfl) (hs : swapsWith e (some (.Name x pos')) pos.line X.env = pure false := by rfl)
    (hf : X.fn x = true ∨ X.env.scope.names.lookup x = some .local := by first | exact .inl rfl | exact .inr rfl | assumption) : DS X W (.Assign [.Name x pos'] e pos) (sOwn i f) :=
  PS.wk (ps_set hN hi hx he hs hf) own_rd
theorem df_lst {es : List Expr} {f : EM (List D)} (ha : DA X W es f) : DF X W (.List es pos) (eBind f fun ds => if small ds.length then eRet ds else fun _ => .bad) := by
  refine PE.wk (pe_lst ha) fun σ H Q q => ?_
  obtain ⟨S, Z, F, h, q⟩ := q
  refine ⟨S, Z, F, h, (Go.bind q).mono fun ds S1 c1 s1 h1 q1 xs rs => ?_⟩
  by_cases hs : small ds.length = true
  · rw [if_pos hs] at q1
    exact ⟨by rw [rs.length]; exact of_decide_eq_true hs, fun p hp => q1 c1 (Stp.refl _) h1 p xs hp rs⟩
  · rw [if_neg hs] at q1
    exact q1.elim

/-! ### comprehensions -/
def wipeS : List Nat → List Slot → List Slot
  | [], S => S
  | v :: vs, S => (wipeS vs S).set v .un
def plainSlot : Slot → Bool
  | .un => true
  | .dat _ => true
  | _ => false
def restS : List Nat → List Slot → List Slot → List Slot
  | [], _, S => S
  | v :: vs, S0, S => match S0[v]? with
    | some s => (restS vs S0 S).set v s
    | none => restS vs S0 S
def plainAt (own : List Nat) (S : List Slot) : Bool := own.all fun v => match S[v]? with
  | some s => plainSlot s
  | none => true
theorem Holds.unset {K : PySem.W.Frag} {S : List Slot} {σ : Sg} {c : Cfg} (i : Nat) (h : Holds K S σ c) :
    ∃ F', (∀ b ∈ F', b ∈ c.F) ∧ Holds K (S.set i .un) (σ.set i none) ⟨c.Z, c.H, F'⟩ := by
  by_cases hi : i < S.length
  · obtain ⟨A, Fi, B, x, e1, e2, _, up⟩ := h.l.at (List.getElem?_eq_getElem hi)
    have sub : ∀ b ∈ A ++ B, b ∈ c.F := fun b m => by
      rw [e1]
      simp at m ⊢
      rcases m with m | m <;> simp [m]
    refine ⟨A ++ B, sub, ⟨?_, ?_, fun a m => h.zf a (sub a m), h.zh⟩⟩
    · exact up ⟨c.Z, c.H, A ++ B⟩ .un none [] (Same.refl _) (fun _ _ => rfl) rfl
    · have nd := h.nd
      rw [e1] at nd
      show (A ++ B).Nodup
      simp only [List.nodup_append, List.mem_append] at nd ⊢
      grind
  · have hl := h.l.len
    rw [List.set_eq_of_length_le (by omega), List.set_eq_of_length_le (by omega)]
    exact ⟨c.F, fun _ m => m, h⟩
theorem Holds.wipe {K : PySem.W.Frag} {S : List Slot} {σ : Sg} : ∀ (own : List Nat) {c : Cfg}, Holds K S σ c → ∃ F', (∀ b ∈ F', b ∈ c.F) ∧ Holds K (wipeS own S) (L2.wipe σ own) ⟨c.Z, c.H, F'⟩
  | [], c, h => ⟨c.F, fun _ m => m, h⟩
  | v :: vs, c, h => by
    obtain ⟨F1, s1, h1⟩ := Holds.wipe vs h
    obtain ⟨F2, s2, h2⟩ := h1.unset v
    exact ⟨F2, fun b m => s1 b (s2 b m), h2⟩
theorem Stp.sub {c : Cfg} {F' : List Addr} (h : ∀ b ∈ F', b ∈ c.F) : Stp c ⟨c.Z, c.H, F'⟩ := ⟨Same.refl _, fun _ _ q _ => q, fun _ o q => ⟨o, q⟩, fun _ _ q => .inl q, fun b m => .inl (h b m)⟩
/-- plain slots of one state come back into another one -/
theorem SlotOk.plain {K : PySem.W.Frag} {c c' : Cfg} {s : Slot} {x : Option V} {F : List Addr} (h : SlotOk K c s x F) (p : plainSlot s = true) (z : Same c.Z c'.Z) : SlotOk K c' s x [] := by
  cases s with
  | un => rfl
  | dat d =>
    obtain ⟨_, v, e, r⟩ := h
    exact ⟨rfl, v, e, r.mono z⟩
  | _ => cases p
theorem Holds.rest {K : PySem.W.Frag} {S0 : List Slot} {σ0 : Sg} {c0 : Cfg} (h0 : Holds K S0 σ0 c0) : ∀ (own : List Nat) {S : List Slot} {σ : Sg} {c : Cfg}, plainAt own S0 = true → Holds K S σ c → Same c0.Z c.Z → S.length = S0.length →
    ∃ F' σ', (∀ b ∈ F', b ∈ c.F) ∧ Holds K (restS own S0 S) σ' ⟨c.Z, c.H, F'⟩ ∧ (restS own S0 S).length = S0.length ∧ (∀ j, j ∉ own → σ'[j]? = σ[j]?) ∧ (∀ j ∈ own, σ'[j]? = σ0[j]?) ∧ σ'.length = σ.length
  | [], S, σ, c, _, h, z, hl => ⟨c.F, σ, fun _ m => m, h, hl, fun _ _ => rfl, fun _ m => by simp at m, rfl⟩
  | v :: vs, S, σ, c, p, h, z, hl => by
    unfold plainAt at p
    rw [List.all_cons, Bool.and_eq_true] at p
    obtain ⟨F1, σ1, s1, h1, l1, n1, o1, e1⟩ := Holds.rest h0 vs (S := S) (σ := σ) (c := c) p.2 h z hl
    have ls := h.l.len
    have ls0 := h0.l.len
    unfold restS
    cases es : S0[v]? with
    | none =>
      have hv : S0.length ≤ v := List.getElem?_eq_none_iff.mp es
      refine ⟨F1, σ1, s1, h1, l1, fun j hj => n1 j fun m => hj (List.mem_cons_of_mem _ m), fun j hj => ?_, e1⟩
      rcases List.mem_cons.mp hj with e | m
      · subst e
        rw [List.getElem?_eq_none (by omega), List.getElem?_eq_none (by omega)]
      · exact o1 j m
    | some s =>
      rw [es] at p
      obtain ⟨A, Fi, B, x, q1, q2, q3, _⟩ := h0.l.at es
      have hv : v < S0.length := by
        rcases Nat.lt_or_ge v S0.length with z | z
        · exact z
        · rw [List.getElem?_eq_none z] at es; cases es
      obtain ⟨A', Fi', B', x', r1, r2, _, up⟩ := h1.l.at (List.getElem?_eq_getElem (show v < (restS vs S0 S).length by rw [l1]; exact hv))
      have sub : ∀ b ∈ A' ++ B', b ∈ F1 := fun b m => by
        have r1' : F1 = A' ++ (Fi' ++ B') := r1
        rw [r1']
        simp at m ⊢
        rcases m with m | m <;> simp [m]
      refine ⟨A' ++ B', σ1.set v x, fun b m => s1 b (sub b m), ⟨?_, ?_, fun a m => h1.zf a (sub a m), h1.zh⟩, by simp [l1], fun j hj => ?_, fun j hj => ?_, by simp [e1]⟩
      · exact up ⟨c.Z, c.H, A' ++ B'⟩ s x [] (Same.refl _) (fun _ _ => rfl) (q3.plain p.1 z)
      · have nd := h1.nd
        have r1' : F1 = A' ++ (Fi' ++ B') := r1
        have nd' : F1.Nodup := nd
        rw [r1'] at nd'
        show (A' ++ B').Nodup
        simp only [List.nodup_append, List.mem_append] at nd' ⊢
        grind
      · simp only [List.mem_cons, not_or] at hj
        rw [List.getElem?_set_ne (Ne.symm hj.1)]
        exact n1 j hj.2
      · by_cases e : j = v
        · subst e
          rw [List.getElem?_set_self (by omega), q2]
        · rw [List.getElem?_set_ne (Ne.symm e)]
          rcases List.mem_cons.mp hj with z | m
          · exact absurd z e
          · exact o1 j m
theorem wipe_get {σ : Sg} {j : Nat} : ∀ {vs : List Nat}, j ∉ vs → (L2.wipe σ vs)[j]? = σ[j]?
  | [], _ => rfl
  | v :: vs, h => by
    simp only [List.mem_cons, not_or] at h
    unfold L2.wipe
    rw [List.getElem?_set_ne (Ne.symm h.1)]
    exact wipe_get h.2
theorem Holds.back {K : PySem.W.Frag} {S0 S : List Slot} {σ : Sg} {c0 c : Cfg} {own : List Nat} (h0 : Holds K S0 σ c0) (p : plainAt own S0 = true) (h : Holds K S (L2.wipe σ own) c) (z : Same c0.Z c.Z) :
    ∃ F', (∀ b ∈ F', b ∈ c.F) ∧ Holds K (restS own S0 S) σ ⟨c.Z, c.H, F'⟩ := by
  have l0 := h0.l.len
  have l1 := h.l.len
  rw [wipe_length] at l1
  obtain ⟨F', σ', s, h', _, n, o, e⟩ := Holds.rest h0 own p h z (by omega)
  have es : σ' = σ := by
    apply List.ext_getElem?
    intro j
    by_cases hj : j ∈ own
    · exact o j hj
    · rw [n j hj, wipe_get hj]
  rw [es] at h'
  exact ⟨F', s, h'⟩
theorem wipeS_length (vs : List Nat) (S : List Slot) : (wipeS vs S).length = S.length := by
  induction vs with
  | nil => rfl
  | cons v vs ih =>
    unfold wipeS
    rw [List.length_set, ih]
theorem wipe_wipe (vs : List Nat) (τ : Sg) : L2.wipe (L2.wipe τ vs) vs = L2.wipe τ vs := by
  have aux : ∀ (us : List Nat) (τ : Sg), (∀ u ∈ us, u ∈ vs) → L2.wipe (L2.wipe τ us) vs = L2.wipe τ vs := by
    intro us
    induction us with
    | nil => intro τ _; rfl
    | cons u us ih =>
      intro τ hu
      show L2.wipe ((L2.wipe τ us).set u none) vs = _
      rw [wipe_set (hu u (by simp))]
      exact ih τ fun w hw => hu w (by simp [hw])
  exact aux vs τ fun _ h => h
def compL (own : List Nat) (g : Tg) (t : EM Bool) (e : EM D) : List D → EM (List D)
  | [], S => .ok [] S
  | d :: ds, S => match g d S with
    | none => .bad
    | some S1 => match t S1 with
      | .ok true S2 => match e S2 with
        | .ok y S3 => match compL own g t e ds (wipeS own S3) with
          | .ok ys S4 => .ok (y :: ys) S4
          | _ => .bad
        | _ => .bad
      | .ok false S2 => compL own g t e ds (wipeS own S2)
      | _ => .bad
def eComp (own : List Nat) (src : EM (List D)) (g : Tg) (t : EM Bool) (e : EM D) : EM (List D) := eBind src fun ds S => if plainAt own S && small ds.length then
    match compL own g t e ds (wipeS own S) with
    | .ok ys S' => .ok ys (restS own S S')
    | _ => .bad
  else .bad
def bYes : EM Bool := eRet true
def DTs (X : Cx) (W : WX) (ifs : List Expr) (f : EM Bool) : Prop := PTs X ifs (tB' (gx X W) f)
theorem dts_nil : DTs X W [] bYes := by
  refine ⟨fun pins s σ H Q I q => pts_nil.run pins s σ H Q I ?_⟩
  obtain ⟨S, Z, F, h, q⟩ := q
  exact q _ (Stp.refl _) h
theorem dts_one {c : Expr} {f : EM Bool} (h : DT X W c f) : DTs X W [c] f := pts_one h
/-- the new list while it is made -/
structure Mk1 (K : PySem.W.Frag) (c1 c : Cfg) (A : Addr) (acc : List D) : Prop where
  st : Stp c1 c
  hn : c1.H A = none
  at' : ∃ vs, c.H A = some (.lst vs) ∧ RpA K c.Z vs acc
  zn : c.Z A = none
  nf : A ∉ c.F
theorem Mk1.step {K : PySem.W.Frag} {c1 c c' : Cfg} {A : Addr} {acc : List D} (m : Mk1 K c1 c A acc) (s : Stp c c') : Mk1 K c1 c' A acc := by
  obtain ⟨vs, e, r⟩ := m.at'
  refine ⟨m.st.trans s, m.hn, ⟨vs, s.k _ _ e m.nf, r.mono s.z⟩, ?_, fun hm => ?_⟩
  · cases q : c'.Z A with
    | none => rfl
    | some o =>
      rcases s.n _ _ q with z | z | z | ⟨xs, z⟩
      · rw [m.zn] at z; cases z
      · rw [e] at z; cases z
      · exact absurd z m.nf
      · rw [e] at z; cases z
  · rcases s.f _ hm with z | z
    · exact m.nf z
    · rw [e] at z; cases z
theorem Mk1.sub {K : PySem.W.Frag} {c1 c : Cfg} {A : Addr} {acc : List D} {F' : List Addr} (m : Mk1 K c1 c A acc) (h : ∀ b ∈ F', b ∈ c.F) : Mk1 K c1 ⟨c.Z, c.H, F'⟩ A acc := m.step (Stp.sub h)
theorem Stp.tmpU {c1 c : Cfg} (s : Stp c1 c) {A : Addr} {o : HO} (hn : c1.H A = none) : Stp c1 (c.tmp A o) where
  z := s.z
  k := fun b x e hb => by
    have ne : b ≠ A := by
      rintro rfl
      rw [hn] at e
      cases e
    exact (upd_ne ne).trans (s.k b x e hb)
  t := fun b x e => by
    obtain ⟨o', e'⟩ := s.t b x e
    have ne : b ≠ A := by
      rintro rfl
      rw [hn] at e
      cases e
    exact ⟨o', (upd_ne ne).trans e'⟩
  n := s.n
  f := s.f
theorem Mk1.push {K : PySem.W.Frag} {c1 c : Cfg} {A : Addr} {acc : List D} {vs : List V} {v : V} {d : D} (m : Mk1 K c1 c A acc) (e : c.H A = some (.lst vs)) (ra : RpA K c.Z vs acc) (r : Rp K c.Z v d) : Mk1 K c1 (c.tmp A (.lst (vs ++ [v]))) A (acc ++ [d]) :=
  ⟨m.st.tmpU m.hn, m.hn, ⟨vs ++ [v], upd_same, ra.append (.cons r .nil)⟩, m.zn, m.nf⟩
theorem comp_rd {own : List Nat} {is : List Nat} {g : Tg} {t : EM Bool} {e : EM D} {m : EM (List D)} {σ : Sg} {H : Hp} {Q : VK} (hsub : ∀ i ∈ is, i ∈ own) (q : tF (gx X W) (eComp own m g t e) σ H Q) :
    tLc (tI (gx X W) m) (tG (gx X W) is g) (tB' (gx X W) t) (tD (gx X W) e) own σ H Q := by
  obtain ⟨S, Z, F, h, q⟩ := q
  refine ⟨S, Z, F, h, (Go.bind q).mono fun ds S1 c1 s1 h1 q1 J it A hA => ?_⟩
  by_cases hb : (plainAt own S1 && small ds.length) = true
  · rw [if_pos hb] at q1
    rw [Bool.and_eq_true] at hb
    obtain ⟨F0, sub0, h0⟩ := h1.wipe own
    have hsz : ds.length ≤ sizeLine := of_decide_eq_true hb.2
    -- what the whole loop comes to
    cases eC : compL own g t e ds (wipeS own S1) with
    | bad => simp only [eC] at q1; exact q1.elim
    | ex x S2 => simp only [eC] at q1; exact q1.elim
    | ok ys Sz =>
      simp only [eC] at q1
      refine ⟨fun i k H' => k = ds.length - i ∧ i ≤ ds.length ∧ ∃ S' c' acc rest, c'.H = H' ∧ Holds X.K S' (L2.wipe σ own) c' ∧ Mk1 X.K c1 c' A acc ∧ acc.length ≤ i ∧ compL own g t e (ds.drop i) S' = .ok rest Sz ∧ acc ++ rest = ys, ⟨ds.length, ?_⟩, fun i k H' w => ?_⟩
      · have hn0 : (⟨c1.Z, c1.H, F0⟩ : Cfg).H A = none := hA
        obtain ⟨s2, h2⟩ := h0.tmpS (o := .lst []) hn0
        refine ⟨by simp, by simp, wipeS own S1, (⟨c1.Z, c1.H, F0⟩ : Cfg).tmp A (.lst []), [], ys, rfl, h2, ⟨(Stp.sub sub0).tmpU hA, hA, ⟨[], upd_same, .nil⟩, h1.nf hA, fun mm => h1.nF hA (sub0 A mm)⟩, by simp, by simpa using eC, rfl⟩
      · obtain ⟨ek, hi, S', c', acc, rest, eH, h', mk, la, ec, ey⟩ := w
        subst eH
        by_cases hlt : i < ds.length
        · obtain ⟨go, yld⟩ := it.go i c' S' (L2.wipe σ own) hlt mk.st.z h'
          refine .inr ⟨go, fun H2 => ∃ S2 c2 acc2 rest2, c2.H = H2 ∧ Holds X.K S2 (L2.wipe σ own) c2 ∧ Mk1 X.K c1 c2 A acc2 ∧ acc2.length ≤ i + 1 ∧ compL own g t e (ds.drop (i + 1)) S2 = .ok rest2 Sz ∧ acc2 ++ rest2 = ys, fun H2 n => ?_, fun x H2 y => ?_⟩
          · obtain ⟨S2, c2, acc2, rest2, n1, n2, n3, n4, n5, n6⟩ := n
            exact ⟨ds.length - (i + 1), by omega, rfl, hlt, S2, c2, acc2, rest2, n1, n2, n3, n4, n5, n6⟩
          · obtain ⟨c2, d, e2, ed, st2, h2, rd⟩ := yld x H2 y
            subst e2
            have dr : ds.drop i = d :: ds.drop (i + 1) := by
              rw [List.drop_eq_getElem_cons hlt]
              rw [List.getElem?_eq_getElem hlt] at ed
              rw [Option.some.inj ed]
            rw [dr] at ec
            unfold compL at ec
            cases eg : g d S' with
            | none => simp only [eg] at ec; cases ec
            | some S3 =>
              simp only [eg] at ec
              refine ⟨S', c2.Z, c2.F, d, S3, h2, rd, eg, fun σ3 c3 st3 h3 on => ?_⟩
              have wσ : L2.wipe σ3 own = L2.wipe σ own := (on own hsub).trans (wipe_wipe own σ)
              refine ⟨wσ, S3, c3.Z, c3.F, h3, ?_⟩
              have m3 := (mk.step st2).step st3
              cases et : t S3 with
              | bad => simp only [et] at ec; cases ec
              | ex x S4 => simp only [et] at ec; cases ec
              | ok b S4 =>
                intro c4 st4 h4
                have m4 := m3.step st4
                cases b with
                | false =>
                  simp only [et] at ec
                  refine iteF ?_
                  obtain ⟨F5, sub5, h5⟩ := h4.wipe own
                  rw [wσ] at h5
                  exact ⟨_, ⟨c4.Z, c4.H, F5⟩, acc, rest, rfl, h5, m4.sub sub5, by omega, ec, ey⟩
                | true =>
                  simp only [et] at ec
                  refine iteT ?_
                  refine ⟨S4, c4.Z, c4.F, h4, ?_⟩
                  cases ee : e S4 with
                  | bad => simp only [ee] at ec; cases ec
                  | ex x S5 => simp only [ee] at ec; cases ec
                  | ok yv S5 =>
                    simp only [ee] at ec
                    intro c5 st5 h5 v rv
                    have m5 := m4.step st5
                    obtain ⟨vs, e5, r5⟩ := m5.at'
                    cases er : compL own g t e (ds.drop (i + 1)) (wipeS own S5) with
                    | bad => simp only [er] at ec; cases ec
                    | ex x S6 => simp only [er] at ec; cases ec
                    | ok ys2 S6 =>
                      simp only [er] at ec
                      cases ec
                      obtain ⟨F6, sub6, h6⟩ := h5.wipe own
                      rw [wσ] at h6
                      have m6 := m5.sub sub6
                      refine ⟨vs, e5, by have := r5.length; omega, _, (⟨c5.Z, c5.H, F6⟩ : Cfg).tmp A (.lst (vs ++ [v])), acc ++ [yv], ys2, rfl, h6.tmp m6.nf m6.zn fun _ _ => ⟨_, rfl⟩, m6.push e5 r5 rv, by simp; omega, er, by simpa using ey⟩
        · have e0 : ds.drop i = [] := List.drop_eq_nil_of_le (by omega)
          rw [e0] at ec
          cases ec
          rw [List.append_nil] at ey
          subst ey
          refine .inl ⟨it.stop i c' Sz (L2.wipe σ own) (by omega) mk.st.z h', ?_⟩
          obtain ⟨vs, ev, rv⟩ := mk.at'
          -- the state without the new list
          have hne : ∀ b, b ≠ A → (fun b => if b = A then none else c'.H b : Hp) b = c'.H b := fun b hb => if_neg hb
          have hcA : (fun b => if b = A then none else c'.H b : Hp) A = none := if_pos rfl
          have hh : Holds X.K Sz (L2.wipe σ own) ⟨c'.Z, fun b => if b = A then none else c'.H b, c'.F⟩ := by
            refine ⟨HoldsL.tr (c := c') (c' := ⟨c'.Z, fun b => if b = A then none else c'.H b, c'.F⟩) (Same.refl c'.Z) h'.l fun a ha => hne a fun z => mk.nf (z ▸ ha), h'.nd, h'.zf, fun b o q => ?_⟩
            have nb : b ≠ A := by
              rintro rfl
              have q' : c'.Z b = some o := q
              rw [mk.zn] at q'
              cases q'
            exact (hne b nb).trans (h'.zh b o q)
          obtain ⟨F7, sub7, h7⟩ := Holds.back h1 hb.1 hh mk.st.z
          have st7 : Stp c1 ⟨c'.Z, fun b => if b = A then none else c'.H b, F7⟩ := by
            refine ⟨mk.st.z, fun b o q hn => ?_, fun b o q => ?_, mk.st.n, fun b hm => mk.st.f b (sub7 b hm)⟩
            · have nb : b ≠ A := by
                rintro rfl
                rw [mk.hn] at q
                cases q
              exact (hne b nb).trans (mk.st.k b o q hn)
            · have nb : b ≠ A := by
                rintro rfl
                rw [mk.hn] at q
                cases q
              obtain ⟨o', q'⟩ := mk.st.t b o q
              exact ⟨o', (hne b nb).trans q'⟩
          have fin := q1 _ st7 h7 A vs hcA rv
          have eq : upd (fun b => if b = A then none else c'.H b) A (.lst vs) = c'.H := by
            funext b
            by_cases hb' : b = A
            · subst hb'
              rw [upd_same, ev]
            · rw [upd_ne hb']
              exact hne b hb'
          have fin' : Q (.ref A) (upd (fun b => if b = A then none else c'.H b) A (.lst vs)) := fin
          rw [eq] at fin'
          exact fin'
  · rw [if_neg hb] at q1
    exact q1.elim
theorem df_comp {elt tg iter : Expr} {ifs : List Expr} {scope : Scope} {own : List (Str × Nat)} {is : List Nat} {m : EM (List D)} {g : Tg} {t : EM Bool} {e : EM D} (hc : X.calm = true) (hN : X.N.Nodup) (hi : DI X W tg iter m) (ok : BlkOk X.N X.env.scope scope own)
    (hg : ∀ (s : Shared) (H : Hp) (C : Addr) (cl : List (Str × Addr)) (fp : List Addr), DG (X.blk s H scope (compEnvC scope cl C X.env) fp) W tg is g) (ht : ∀ (s : Shared) (H : Hp) (C : Addr) (cl : List (Str × Addr)) (fp : List Addr), DTs (X.blk s H scope (compEnvC scope cl C X.env) fp) W ifs t)
    (he : ∀ (s : Shared) (H : Hp) (C : Addr) (cl : List (Str × Addr)) (fp : List Addr), DE (X.blk s H scope (compEnvC scope cl C X.env) fp) W elt e) (hsub : ∀ i ∈ is, i ∈ own.map (·.2)) (hs : ∀ x, foldedSetIterable iter X.env x = pure x := by intro _; rfl) :
    DF X W (.ListComp elt [⟨tg, iter, ifs, 0⟩] scope pos) (eComp (own.map (·.2)) m g t e) := PE.wk (pe_lc (g := tG (gx X W) is g) (tt := tB' (gx X W) t) (te := tD (gx X W) e) hc hN hi ok hg ht he hs) fun σ H Q q => comp_rd hsub q
/-- name = [..] -/
theorem comp_own {own : List Nat} {is : List Nat} {g : Tg} {t : EM Bool} {e : EM D} {m : EM (List D)} {i : Nat} (hsub : ∀ i ∈ is, i ∈ own) (Q : Ends) (σ : Sg) (H : Hp) (q : tS (gx X W) (sOwn i (eComp own m g t e)) Q σ H) :
    tAsg (tLc (tI (gx X W) m) (tG (gx X W) is g) (tB' (gx X W) t) (tD (gx X W) e) own) (gName i) Q σ H := comp_rd hsub (own_rd Q σ H q)
theorem ds_ownLc (i : Nat) {y : Str} {py : Pos} {elt tg iter : Expr} {ifs : List Expr} {scope : Scope} {own : List (Str × Nat)} {spos : Pos} {is : List Nat} {m : EM (List D)} {g : Tg} {t : EM Bool} {e : EM D} (hc : X.calm = true) (hN : X.N.Nodup) (hi : DI X W tg iter m) (ok : BlkOk X.N X.env.scope scope own)
    (hg : ∀ (s : Shared) (H : Hp) (C : Addr) (cl : List (Str × Addr)) (fp : List Addr), DG (X.blk s H scope (compEnvC scope cl C X.env) fp) W tg is g) (ht : ∀ (s : Shared) (H : Hp) (C : Addr) (cl : List (Str × Addr)) (fp : List Addr), DTs (X.blk s H scope (compEnvC scope cl C X.env) fp) W ifs t)
    (he : ∀ (s : Shared) (H : Hp) (C : Addr) (cl : List (Str × Addr)) (fp : List Addr), DE (X.blk s H scope (compEnvC scope cl C X.env) fp) W elt e) (hsub : ∀ i ∈ is, i ∈ own.map (·.2))
    (hsw : swapsWith (.ListComp elt [⟨tg, iter, ifs, 0⟩] scope pos) (some (.Name y py)) spos.line X.env = pure true) (hy : X.N[i]? = some y := by rfl) (hyl : X.env.scope.names.lookup y = some .local := by rfl) (hs : ∀ x, foldedSetIterable iter X.env x = pure x := by intro _; rfl) :
    DS X W (.Assign [.Name y py] (.ListComp elt [⟨tg, iter, ifs, 0⟩] scope pos) spos) (sOwn i (eComp (own.map (·.2)) m g t e)) :=
  PS.wk (ps_setLc (g := tG (gx X W) is g) (tt := tB' (gx X W) t) (te := tD (gx X W) e) hc hN hy hyl hsw hi ok hg ht he hs) (comp_own hsub)
/-- the same, frozen at once -/
def sDat (i : Nat) (f : EM (List D)) : SM := sOf f fun ds S => if i < S.length then .nx (S.set i (.dat (.list ds))) else .bad
theorem dat_rd {f : EM (List D)} {i : Nat} (Q : Ends) (σ : Sg) (H : Hp) (q : tS (gx X W) (sDat i f) Q σ H) : tAsg (tF (gx X W) f) (gName i) Q σ H := by
  obtain ⟨S, Z, F, h, q⟩ := q
  refine ⟨S, Z, F, h, Go.toS q fun ds S1 c1 s1 h1 q1 p vs hp rs => ?_⟩
  split at q1
  · rename_i hl
    obtain ⟨s2, h2, r2⟩ := h1.layL hp rs
    obtain ⟨F', st, h'⟩ := h2.setD hl r2
    exact q1 _ ⟨(c1.lay p (.lst vs)).Z, (c1.lay p (.lst vs)).H, F'⟩ (s2.trans st) h'
  · exact q1.elim
theorem ds_datLc (i : Nat) {y : Str} {py : Pos} {elt tg iter : Expr} {ifs : List Expr} {scope : Scope} {own : List (Str × Nat)} {spos : Pos} {is : List Nat} {m : EM (List D)} {g : Tg} {t : EM Bool} {e : EM D} (hc : X.calm = true) (hN : X.N.Nodup) (hi : DI X W tg iter m) (ok : BlkOk X.N X.env.scope scope own)
    (hg : ∀ (s : Shared) (H : Hp) (C : Addr) (cl : List (Str × Addr)) (fp : List Addr), DG (X.blk s H scope (compEnvC scope cl C X.env) fp) W tg is g) (ht : ∀ (s : Shared) (H : Hp) (C : Addr) (cl : List (Str × Addr)) (fp : List Addr), DTs (X.blk s H scope (compEnvC scope cl C X.env) fp) W ifs t)
    (he : ∀ (s : Shared) (H : Hp) (C : Addr) (cl : List (Str × Addr)) (fp : List Addr), DE (X.blk s H scope (compEnvC scope cl C X.env) fp) W elt e) (hsub : ∀ i ∈ is, i ∈ own.map (·.2))
    (hsw : swapsWith (.ListComp elt [⟨tg, iter, ifs, 0⟩] scope pos) (some (.Name y py)) spos.line X.env = pure true) (hy : X.N[i]? = some y := by rfl) (hyl : X.env.scope.names.lookup y = some .local := by rfl) (hs : ∀ x, foldedSetIterable iter X.env x = pure x := by intro _; rfl) :
    DS X W (.Assign [.Name y py] (.ListComp elt [⟨tg, iter, ifs, 0⟩] scope pos) spos) (sDat i (eComp (own.map (·.2)) m g t e)) :=
  PS.wk (ps_setLc (g := tG (gx X W) is g) (tt := tB' (gx X W) t) (te := tD (gx X W) e) hc hN hy hyl hsw hi ok hg ht he hs) fun Q σ H q => comp_rd hsub (dat_rd Q σ H q)
end
end FW

/-! FwE: defs and their calls, the numbers that are drawn. -/
namespace FW
open PySem PySem.Spec L2
open PyProof.Rows hiding St
inductive Rs where
  | ok (d : D)
  | ex (e : Exn)
  | bad
def startS (ds : List D) (n : Nat) : List Slot := ds.map Slot.dat ++ List.replicate (n - ds.length) Slot.un
def outR : Out → Rs
  | .rt d _ => .ok d
  | .nx _ => .ok .none
  | .ex e _ => .ex e
  | _ => .bad
def runF (n : Nat) (body : SM) (ds : List D) : Rs := outR (body (startS ds n))
/-- what a def of data promises: nothing is raised; something may be raised -/
def spD0 (K : PySem.W.Frag) (m : Nat) (g : List D → Rs) : Sp := fun vs H Q _ => ∃ ds Z, ds.length = m ∧ Same Z H ∧ RpA K Z vs ds ∧
  match g ds with
  | .ok d => ∀ c' v, Stp ⟨Z, H, []⟩ c' → Same c'.Z c'.H → Rp K c'.Z v d → Q v c'.H
  | _ => False
def spDX (K : PySem.W.Frag) (mg : Str → Option Value) (m : Nat) (g : List D → Rs) : Sp := fun vs H Q E => ∃ ds Z, ds.length = m ∧ Same Z H ∧ RpA K Z vs ds ∧
  match g ds with
  | .ok d => ∀ c' v, Stp ⟨Z, H, []⟩ c' → Same c'.Z c'.H → Rp K c'.Z v d → Q v c'.H
  | .ex e => ∀ c' cls dx, Stp ⟨Z, H, []⟩ c' → Same c'.Z c'.H → ExOk mg c'.Z e cls dx → E cls dx c'.H
  | .bad => False
theorem startL {K : PySem.W.Frag} {c : Cfg} : ∀ {ds : List D} {vs : List V} (n : Nat), RpA K c.Z vs ds → HoldsL K c (ds.map Slot.dat ++ List.replicate n Slot.un) (vs.map some ++ List.replicate n none) []
  | [], _, 0, .nil => .nil
  | [], _, n + 1, .nil => by
    have ih := startL (K := K) (c := c) (ds := []) (vs := []) n .nil
    have q : HoldsL K c (Slot.un :: (List.map Slot.dat [] ++ List.replicate n Slot.un)) (none :: (List.map some [] ++ List.replicate n none)) ([] ++ []) := .cons (show SlotOk K c .un none [] from rfl) ih
    simpa [List.replicate_succ] using q
  | d :: ds, _, n, .cons (v := v) (vs := vs) r rs => by
    have ih := startL (K := K) (c := c) n rs
    have q : HoldsL K c (Slot.dat d :: (ds.map Slot.dat ++ List.replicate n Slot.un)) (some v :: (vs.map some ++ List.replicate n none)) ([] ++ []) := .cons (show SlotOk K c (.dat d) (some v) [] from ⟨rfl, v, rfl, r⟩) ih
    simpa using q
theorem startH {K : PySem.W.Frag} {Z H : Hp} {N : List Str} {ds : List D} {vs : List V} (z : Same Z H) (r : RpA K Z vs ds) : Holds K (startS ds N.length) (L2.start N vs) ⟨Z, H, []⟩ := by
  refine ⟨?_, List.nodup_nil, fun a m => by simp at m, z⟩
  unfold startS L2.start
  rw [r.length]
  exact startL _ r
section
variable {P : Program} {w : World} {K : PySem.W.Frag} {mg : Str → Option Value} {base : Heap}
abbrev W0 : WX := fun _ _ _ _ => False
theorem ok_D0 {x qual : Str} {st : Stmt} {f : Addr} {fd : FuncData} {N ps : List Str} {k : Nat} {body : SM} (F : Fun K x qual st f fd) (S : FnScope N ps (defScope st))
    (hb : ∀ (cdv : Value) (A : Around) (outer : List Env) (s : Shared) (H : Hp) (E : XK), Room k (A.deeper (envOfC qual (defScope st) s.heap.objs.size f cdv)) →
      DSs (cxOf CX0 P w K mg base N qual (defScope st) f cdv A outer s H E).nox W0 (defBody st) body) : FnOk P w K mg base CX0 (k + 1) f fd ps (spD0 K ps.length (runF N.length body)) := by
  refine F.ok S (fun vs H Q E h => ?_) (fun cdv A outer s H vs Q E hr h => ?_)
  · obtain ⟨ds, Z, hl, _, r, _⟩ := h
    rw [r.length]
    exact hl
  · obtain ⟨ds, Z, hl, z, r, q⟩ := h
    refine ⟨_, hb cdv A outer s H E hr, startS ds N.length, Z, [], startH z r, ?_⟩
    unfold runF outR at q
    cases e : body (startS ds N.length) with
    | nx S' => rw [e] at q; exact fun σ' c' st' h' => q c' .non st' h'.zh .non
    | rt d S' => rw [e] at q; exact fun σ' c' v st' h' rv => q c' v st' h'.zh rv
    | bk S' => rw [e] at q; exact q.elim
    | ct S' => rw [e] at q; exact q.elim
    | ex x S' => rw [e] at q; exact q.elim
    | bad => rw [e] at q; exact q.elim
theorem ok_DX {x qual : Str} {st : Stmt} {f : Addr} {fd : FuncData} {N ps : List Str} {k : Nat} {body : SM} (F : Fun K x qual st f fd) (S : FnScope N ps (defScope st))
    (hb : ∀ (cdv : Value) (A : Around) (outer : List Env) (s : Shared) (H : Hp) (E : XK), Room k (A.deeper (envOfC qual (defScope st) s.heap.objs.size f cdv)) →
      DSs (cxOf (L2.CX P w) P w K mg base N qual (defScope st) f cdv A outer s H E) (fun cls d _ H => E cls d H) (defBody st) body) : FnOk P w K mg base (L2.CX P w) (k + 1) f fd ps (spDX K mg ps.length (runF N.length body)) := by
  refine F.okX S (fun vs H Q E h => ?_) (fun cdv A outer s H vs Q E hr h => ?_)
  · obtain ⟨ds, Z, hl, _, r, _⟩ := h
    rw [r.length]
    exact hl
  · obtain ⟨ds, Z, hl, z, r, q⟩ := h
    refine ⟨_, hb cdv A outer s H E hr, startS ds N.length, Z, [], startH z r, ?_⟩
    unfold runF outR at q
    cases e : body (startS ds N.length) with
    | nx S' => rw [e] at q; exact fun σ' c' st' h' => q c' .non st' h'.zh .non
    | rt d S' => rw [e] at q; exact fun σ' c' v st' h' rv => q c' v st' h'.zh rv
    | bk S' => rw [e] at q; exact q.elim
    | ct S' => rw [e] at q; exact q.elim
    | ex x S' => rw [e] at q; exact fun σ' c' cls dx st' h' x => q c' cls dx st' h'.zh x
    | bad => rw [e] at q; exact q.elim
/-- a promise that is never asked -/
theorem ok_bad {CX : CXT} {f : Addr} {fd : FuncData} {ps : List Str} {k m : Nat} : FnOk P w K mg base CX k f fd ps (spD0 K m fun _ => .bad) where
  len := fun vs H Q E h => by obtain ⟨_, _, _, _, _, q⟩ := h; exact q.elim
  run := fun A outer s H args us vs Q E _ _ _ _ h => by obtain ⟨_, _, _, _, _, q⟩ := h; exact q.elim
theorem ok_badX {CX : CXT} {f : Addr} {fd : FuncData} {ps : List Str} {k m : Nat} : FnOk P w K mg base CX k f fd ps (spDX K mg m fun _ => .bad) where
  len := fun vs H Q E h => by obtain ⟨_, _, _, _, _, q⟩ := h; exact q.elim
  run := fun A outer s H args us vs Q E _ _ _ _ h => by obtain ⟨_, _, _, _, _, q⟩ := h; exact q.elim
/-! ### the drawn numbers -/
inductive Rw where
  | ok (d : D) (k : Int) (ns : List Int)
  | bad
def outW (a : Addr) : Out → Rw
  | .rt d S => match S with
    | .drw a' k ns :: _ => if a' = a then .ok d k ns else .bad
    | _ => .bad
  | _ => .bad
def runW (n : Nat) (body : SM) (a : Addr) (k : Int) (ns : List Int) (ds : List D) : Rw := outW a (body (.drw a k ns :: startS ds (n - 1)))
def spW (K : PySem.W.Frag) (m : Nat) (g : Addr → Int → List Int → List D → Rw) : Sp := fun vs H Q _ => ∃ a k ns vs' ds Z F, vs = .ref a :: vs' ∧ ds.length + 1 = m ∧ RpA K Z vs' ds ∧ Holds K [.drw a k ns] [some (.ref a)] ⟨Z, H, F⟩ ∧
  match g a k ns ds with
  | .ok d k' ns' => ∀ c' v, Stp ⟨Z, H, F⟩ c' → Holds K [.drw a k' ns'] [some (.ref a)] c' → Rp K c'.Z v d → Q v c'.H
  | .bad => False
theorem HoldsL.one {c : Cfg} {s : Slot} {x : Option V} {F : List Addr} (h : HoldsL K c [s] [x] F) : SlotOk K c s x F := by
  cases h with
  | cons h1 h2 =>
    cases h2
    rw [List.append_nil]
    exact h1
theorem Holds.one {c : Cfg} {s : Slot} {x : Option V} (h : Holds K [s] [x] c) : SlotOk K c s x c.F := h.l.one
theorem startHW {N : List Str} {Z H : Hp} {F : List Addr} {a : Addr} {k : Int} {ns : List Int} {ds : List D} {vs : List V} (h : Holds K [.drw a k ns] [some (.ref a)] ⟨Z, H, F⟩) (r : RpA K Z vs ds) (hN : 0 < N.length) :
    Holds K (.drw a k ns :: startS ds (N.length - 1)) (L2.start N (.ref a :: vs)) ⟨Z, H, F⟩ := by
  refine ⟨?_, h.nd, h.zf, h.zh⟩
  have e : L2.start N (.ref a :: vs) = some (.ref a) :: (vs.map some ++ List.replicate (N.length - 1 - vs.length) none) := by
    unfold L2.start
    rw [List.map_cons, List.cons_append, List.length_cons]
    congr 3
    omega
  rw [e]
  have q : HoldsL K ⟨Z, H, F⟩ (.drw a k ns :: startS ds (N.length - 1)) (some (.ref a) :: (vs.map some ++ List.replicate (N.length - 1 - vs.length) none)) (F ++ []) := by
    refine .cons h.one ?_
    unfold startS
    rw [r.length]
    exact startL (c := ⟨Z, H, F⟩) _ r
  rw [List.append_nil] at q
  exact q
theorem Holds.first {S : List Slot} {σ : Sg} {c : Cfg} {a : Addr} {k : Int} {ns : List Int} (h : Holds K (.drw a k ns :: S) σ c) :
    ∃ F', (∀ b ∈ F', b ∈ c.F) ∧ Holds K [.drw a k ns] [some (.ref a)] ⟨c.Z, c.H, F'⟩ := by
  obtain ⟨A, Fi, B, x, e1, e2, o, _⟩ := h.l.at (i := 0) rfl
  have sub : ∀ b ∈ Fi, b ∈ c.F := fun b m => by
    rw [e1]
    simp [m]
  have ex : x = some (.ref a) := by
    obtain ⟨_, _, ex, _⟩ := o
    exact ex
  subst ex
  refine ⟨Fi, sub, ⟨?_, ?_, fun b m => h.zf b (sub b m), h.zh⟩⟩
  · have q : HoldsL K ⟨c.Z, c.H, Fi⟩ [.drw a k ns] [some (.ref a)] (Fi ++ []) := .cons (o.tr (Same.refl _) fun _ _ => rfl) .nil
    rw [List.append_nil] at q
    exact q
  · have nd := h.nd
    rw [e1] at nd
    simp only [List.nodup_append] at nd
    exact nd.2.1.1
theorem ok_W {x qual : Str} {st : Stmt} {f : Addr} {fd : FuncData} {N ps : List Str} {k : Nat} {body : SM} (F : Fun K x qual st f fd) (S : FnScope N ps (defScope st)) (hN : 0 < N.length)
    (hb : ∀ (cdv : Value) (A : Around) (outer : List Env) (s : Shared) (H : Hp) (E : XK), Room k (A.deeper (envOfC qual (defScope st) s.heap.objs.size f cdv)) →
      DSs (cxOf CX0 P w K mg base N qual (defScope st) f cdv A outer s H E).nox W0 (defBody st) body) : FnOk P w K mg base CX0 (k + 1) f fd ps (spW K ps.length (runW N.length body)) := by
  refine F.ok S (fun vs H Q E h => ?_) (fun cdv A outer s H vs Q E hr h => ?_)
  · obtain ⟨a, k, ns, vs', ds, Z, F, rfl, hl, r, _⟩ := h
    rw [List.length_cons, r.length]
    exact hl
  · obtain ⟨a, k, ns, vs', ds, Z, F, rfl, hl, r, h, q⟩ := h
    refine ⟨_, hb cdv A outer s H E hr, .drw a k ns :: startS ds (N.length - 1), Z, F, startHW h r hN, ?_⟩
    unfold runW outW at q
    cases e : body (.drw a k ns :: startS ds (N.length - 1)) with
    | rt d S' =>
      rw [e] at q
      match S', q with
      | [], q => exact q.elim
      | .un :: _, q => exact q.elim
      | .dat _ :: _, q => exact q.elim
      | .own _ :: _, q => exact q.elim
      | .dic _ _ :: _, q => exact q.elim
      | .obj _ _ _ _ _ :: _, q => exact q.elim
      | .drw a' k' ns' :: S', q =>
        by_cases ea : a' = a
        · subst ea
          simp only [if_true] at q
          intro σ' c' v st' h' rv
          obtain ⟨F', sub, h2⟩ := h'.first
          exact q ⟨c'.Z, c'.H, F'⟩ v (st'.trans (Stp.sub sub)) h2 rv
        · simp only [if_neg ea] at q
    | nx S' => rw [e] at q; exact q.elim
    | bk S' => rw [e] at q; exact q.elim
    | ct S' => rw [e] at q; exact q.elim
    | ex x S' => rw [e] at q; exact q.elim
    | bad => rw [e] at q; exact q.elim
end

/-! ### calls -/
section
variable {X : Cx} {W : WX} {pos p : Pos} {x : Str} {e : Expr} {es : List Expr}
def rs0 : Rs → EM D
  | .ok d => eRet d
  | _ => fun _ => .bad
def rsX : Rs → EM D
  | .ok d => eRet d
  | .ex e => fun S => .ex e S
  | .bad => fun _ => .bad
/-- a call of a def that raises nothing; of one that may -/
def eCall (m : Nat) (g : List D → Rs) (fa : EM (List D)) : EM D := eBind fa fun ds => if ds.length = m then rs0 (g ds) else fun _ => .bad
def eCallX (m : Nat) (g : List D → Rs) (fa : EM (List D)) : EM D := eBind fa fun ds => if ds.length = m then rsX (g ds) else fun _ => .bad
theorem Holds.afterC {K : PySem.W.Frag} {S : List Slot} {σ : Sg} {c c' : Cfg} (h : Holds K S σ c) (st : Stp ⟨c.Z, c.H, []⟩ c') (z : Same c'.Z c'.H) : Stp c ⟨c'.Z, c'.H, c.F⟩ ∧ Holds K S σ ⟨c'.Z, c'.H, c.F⟩ := by
  have kk : ∀ b o, c.H b = some o → c'.H b = some o := fun b o q => st.k b o q (by simp)
  refine ⟨⟨st.z, fun b o q _ => kk b o q, fun b o q => ⟨o, kk b o q⟩, fun b o q => ?_, fun b m => .inl m⟩, ⟨HoldsL.tr (c := c) (c' := ⟨c'.Z, c'.H, c.F⟩) st.z h.l fun a m => ?_, h.nd, fun a m => ?_, z⟩⟩
  · rcases st.n b o q with z | z | z | z
    · exact .inl z
    · exact .inr (.inl z)
    · simp at z
    · exact .inr (.inr (.inr z))
  · obtain ⟨o, q, _⟩ := h.l.own a m
    show c'.H a = c.H a
    rw [kk a o q, q]
  · show c'.Z a = none
    cases q : c'.Z a with
    | none => rfl
    | some o =>
      obtain ⟨o', q', q2⟩ := h.l.own a m
      rcases st.n a o q with z | z | z | ⟨xs, z⟩
      · have z' : c.Z a = some o := z
        rw [h.zf a m] at z'
        cases z'
      · have z' : c.H a = none := z
        rw [q'] at z'
        cases z'
      · simp at z
      · have z' : c.H a = some (.tup xs) := z
        rw [q'] at z'
        exact absurd (Option.some.inj z') (q2 _)
theorem de_call {k m : Nat} {f : Addr} {fd : FuncData} {ps : List Str} {g : List D → Rs} {fa : EM (List D)} (F : FnOk X.prog X.w X.K X.mg X.base CX0 k f fd ps (spD0 X.K m g)) (hr : Room k X.A) (hg : Gl X x) (hm : X.mg x = some (.ref f)) (hk : PySem.W.keepIn X.K (.ref f) = true) (hb : Binds X.K fd ps [])
    (ha : DA X W (e :: es) fa) (hdb : (x == ("__debug__" : Str)) = false := by decide) (he : starEach (e :: es) X.env = (false, eval e X.env) :: starEach es X.env := by rfl) (hpl : (backTo pos (starEach es X.env)).any (·.1) = false := by rfl) :
    DE X W (.Call (.Name x p) (e :: es) [] pos) (eCall m g fa) := by
  refine PE.wk (pe_call (E := E0) F hr hg hm hk hb .nil pass0 ha hdb he hpl) fun σ H Q q => ?_
  obtain ⟨S, Z, F, h, q⟩ := q
  refine ⟨S, Z, F, h, (Go.bind q).mono fun ds S1 c1 s1 h1 q1 vs rs => ?_⟩
  by_cases hl : ds.length = m
  · rw [if_pos hl] at q1
    refine ⟨ds, c1.Z, hl, h1.zh, by rw [List.append_nil]; exact rs, ?_⟩
    cases eg : g ds with
    | bad => rw [eg] at q1; exact q1.elim
    | ex y => rw [eg] at q1; exact q1.elim
    | ok d =>
      rw [eg] at q1
      intro c' v st z rv
      obtain ⟨s2, h2⟩ := h1.afterC st z
      exact q1 _ s2 h2 v rv
  · rw [if_neg hl] at q1
    exact q1.elim
theorem de_callX {k m : Nat} {f : Addr} {fd : FuncData} {ps : List Str} {g : List D → Rs} {fa : EM (List D)} (tk : Takes X W) (F : FnOk X.prog X.w X.K X.mg X.base (L2.CX X.prog X.w) k f fd ps (spDX X.K X.mg m g)) (hr : Room k X.A) (hg : Gl X x) (hm : X.mg x = some (.ref f)) (hk : PySem.W.keepIn X.K (.ref f) = true) (hb : Binds X.K fd ps [])
    (ha : DA X W (e :: es) fa) (hdb : (x == ("__debug__" : Str)) = false := by decide) (he : starEach (e :: es) X.env = (false, eval e X.env) :: starEach es X.env := by rfl) (hpl : (backTo pos (starEach es X.env)).any (·.1) = false := by rfl) :
    DE X W (.Call (.Name x p) (e :: es) [] pos) (eCallX m g fa) := by
  refine PE.wk (pe_callS F hr hg hm hk hb (fun σ => passAt tk σ) ha hdb he hpl) fun σ H Q q => ?_
  obtain ⟨S, Z, F, h, q⟩ := q
  refine ⟨S, Z, F, h, (Go.bind q).mono fun ds S1 c1 s1 h1 q1 vs rs => ?_⟩
  by_cases hl : ds.length = m
  · rw [if_pos hl] at q1
    refine ⟨ds, c1.Z, hl, h1.zh, rs, ?_⟩
    cases eg : g ds with
    | bad => rw [eg] at q1; exact q1.elim
    | ex y =>
      rw [eg] at q1
      intro c' cls dx st z xo
      obtain ⟨s2, h2⟩ := h1.afterC st z
      exact q1 ⟨c'.Z, c'.H, c1.F⟩ cls dx s2 h2 xo
    | ok d =>
      rw [eg] at q1
      intro c' v st z rv
      obtain ⟨s2, h2⟩ := h1.afterC st z
      exact q1 _ s2 h2 v rv
  · rw [if_neg hl] at q1
    exact q1.elim
/-- a call that draws: the state is the first argument, in slot i -/
def eCallW (i m : Nat) (g : Addr → Int → List Int → List D → Rw) (fa : EM (List D)) : EM D := fun S0 => match S0[i]? with
  | some (.drw _ _ _) => eBind fa (fun ds S => match S[i]? with
    | some (.drw a k ns) => if ds.length + 1 = m then (match g a k ns ds with
      | .ok d k' ns' => .ok d (S.set i (.drw a k' ns'))
      | .bad => .bad) else .bad
    | _ => .bad) S0
  | _ => .bad
theorem Holds.drwAt {K : PySem.W.Frag} {S : List Slot} {σ : Sg} {c : Cfg} {i : Nat} {a : Addr} {k : Int} {ns : List Int} (h : Holds K S σ c) (e : S[i]? = some (.drw a k ns)) : σ[i]? = some (some (V.ref a)) := by
  obtain ⟨A, Fi, B, x, _, e2, ⟨_, _, e3, _⟩, _⟩ := h.l.at e
  subst e3
  exact e2
/-- behind a call that changed the state in slot i -/
theorem Holds.drwSet {K : PySem.W.Frag} {S : List Slot} {σ : Sg} {c : Cfg} {i : Nat} {a : Addr} {k : Int} {ns : List Int} (h : Holds K S σ c) (e : S[i]? = some (.drw a k ns)) :
    ∃ Fi, Holds K [.drw a k ns] [some (.ref a)] ⟨c.Z, c.H, Fi⟩ ∧ ∀ c' k' ns', Stp ⟨c.Z, c.H, Fi⟩ c' → Holds K [.drw a k' ns'] [some (.ref a)] c' →
      ∃ F', Stp c ⟨c'.Z, c'.H, F'⟩ ∧ Holds K (S.set i (.drw a k' ns')) σ ⟨c'.Z, c'.H, F'⟩ := by
  have e2 := h.drwAt e
  obtain ⟨A, Fi, B, x, e1, e2', o, up⟩ := h.l.at e
  rw [e2] at e2'
  cases e2'
  have nd := h.nd
  rw [e1] at nd
  have inF : ∀ b ∈ Fi, b ∈ c.F := fun b m => by
    rw [e1]
    simp [m]
  have inAB : ∀ b ∈ A ++ B, b ∈ c.F ∧ b ∉ Fi := fun b m => by
    refine ⟨?_, ?_⟩
    · rw [e1]
      simp at m ⊢
      rcases m with m | m <;> simp [m]
    · simp only [List.nodup_append, List.mem_append] at nd m
      grind
  refine ⟨Fi, ⟨?_, ?_, fun b m => h.zf b (inF b m), h.zh⟩, fun c' k' ns' st h' => ?_⟩
  · have q : HoldsL K ⟨c.Z, c.H, Fi⟩ [.drw a k ns] [some (.ref a)] (Fi ++ []) := .cons (o.tr (Same.refl _) fun _ _ => rfl) .nil
    rw [List.append_nil] at q
    exact q
  · show Fi.Nodup
    simp only [List.nodup_append] at nd
    exact nd.2.1.1
  · have keep : ∀ b ∈ A ++ B, c'.H b = c.H b := fun b m => by
      obtain ⟨m1, m2⟩ := inAB b m
      obtain ⟨o, q, _⟩ := h.l.own b m1
      rw [st.k b o q m2, q]
    refine ⟨A ++ (c'.F ++ B), ⟨st.z, fun b o q hn => st.k b o q fun m => hn (inF b m), st.t, fun b o q => ?_, fun b m => ?_⟩, ⟨?_, ?_, fun b m => ?_, h'.zh⟩⟩
    · rcases st.n b o q with z | z | z | z
      · exact .inl z
      · exact .inr (.inl z)
      · exact .inr (.inr (.inl (inF b z)))
      · exact .inr (.inr (.inr z))
    · have m' : b ∈ A ++ (c'.F ++ B) := m
      simp only [List.mem_append] at m'
      rcases m' with m' | m' | m'
      · exact .inl (inAB b (by simp [m'])).1
      · rcases st.f b m' with z | z
        · exact .inl (inF b z)
        · exact .inr z
      · exact .inl (inAB b (by simp [m'])).1
    · have q := up ⟨c'.Z, c'.H, A ++ (c'.F ++ B)⟩ (.drw a k' ns') (some (.ref a)) c'.F st.z keep h'.one
      rw [list_set_self e2] at q
      exact q
    · show (A ++ (c'.F ++ B)).Nodup
      have dis : ∀ b ∈ A ++ B, b ∉ c'.F := fun b m m2 => by
        obtain ⟨m1, m3⟩ := inAB b m
        obtain ⟨o, q, _⟩ := h.l.own b m1
        rcases st.f b m2 with z | z
        · exact m3 z
        · have z' : c.H b = none := z
          rw [q] at z'
          cases z'
      have nd' := h'.nd
      simp only [List.nodup_append, List.mem_append] at nd dis ⊢
      grind
    · have m' : b ∈ A ++ (c'.F ++ B) := m
      have zAB : ∀ b ∈ A ++ B, c'.Z b = none := fun b m => by
        obtain ⟨m1, m3⟩ := inAB b m
        cases q : c'.Z b with
        | none => rfl
        | some o =>
          obtain ⟨o', q', q2⟩ := h.l.own b m1
          rcases st.n b o q with z | z | z | ⟨xs, z⟩
          · have z' : c.Z b = some o := z
            rw [h.zf b m1] at z'
            cases z'
          · have z' : c.H b = none := z
            rw [q'] at z'
            cases z'
          · exact absurd z m3
          · have z' : c.H b = some (.tup xs) := z
            rw [q'] at z'
            exact absurd (Option.some.inj z') (q2 _)
      simp only [List.mem_append] at m' zAB
      rcases m' with m' | m' | m'
      · exact zAB b (.inl m')
      · exact h'.zf b m'
      · exact zAB b (.inr m')
theorem de_callW (i : Nat) {k m : Nat} {f : Addr} {fd : FuncData} {ps : List Str} {g : Addr → Int → List Int → List D → Rw} {fa : EM (List D)} {y : Str} {p2 : Pos} (F : FnOk X.prog X.w X.K X.mg X.base CX0 k f fd ps (spW X.K m g)) (hr : Room k X.A) (hg : Gl X x) (hm : X.mg x = some (.ref f)) (hk : PySem.W.keepIn X.K (.ref f) = true) (hb : Binds X.K fd ps [])
    (ha : DA X W es fa) (hN : X.N[i]? = some y := by rfl) (hv : Vis X.env.scope y := by first | exact Or.inl rfl | exact Or.inr (Or.inl rfl) | exact Or.inr (Or.inr rfl)) (hd : (y == ("__debug__" : Str)) = false := by decide) (hcd : (y == ("__classdict__" : Str)) = false := by decide)
    (hs : starEach (.Name y p2 :: es) X.env = (false, eval (.Name y p2) X.env) :: starEach es X.env := by rfl) (hdb : (x == ("__debug__" : Str)) = false := by decide) (hpl : (backTo pos (starEach es X.env)).any (·.1) = false := by rfl) :
    DE X W (.Call (.Name x p) (.Name y p2 :: es) [] pos) (eCallW i m g fa) := by
  refine PE.wk (pe_call (E := E0) F hr hg hm hk hb .nil pass0 (pa_cons (pe_var hN hv hd hcd) ha hs) hdb hs hpl) fun σ H Q q => ?_
  obtain ⟨S, Z, F, h, q⟩ := q
  unfold eCallW at q
  split at q
  · rename_i a0 k0 ns0 e0
    refine ⟨.ref a0, h.drwAt e0, S, Z, F, h, (Go.bind q).mono fun ds S1 c1 s1 h1 q1 vs rs => ?_⟩
    split at q1
    · rename_i a1 k1 ns1 e1
      have ea : a1 = a0 := by
        have z1 := h1.drwAt e1
        rw [h.drwAt e0] at z1
        cases z1
        rfl
      subst ea
      by_cases hl : ds.length + 1 = m
      · rw [if_pos hl] at q1
        obtain ⟨Fi, hs, back⟩ := h1.drwSet e1
        show spW X.K m g ((V.ref a1 :: vs) ++ []) c1.H Q E0
        rw [List.append_nil]
        refine ⟨a1, k1, ns1, vs, ds, c1.Z, Fi, rfl, hl, rs, hs, ?_⟩
        cases eg : g a1 k1 ns1 ds with
        | bad => simp only [eg] at q1; exact q1.elim
        | ok d k' ns' =>
          simp only [eg] at q1
          intro c' v st h' rv
          obtain ⟨F', s2, h2⟩ := back c' k' ns' st h'
          exact q1 ⟨c'.Z, c'.H, F'⟩ s2 h2 v rv
      · rw [if_neg hl] at q1
        exact q1.elim
    · exact q1.elim
  · exact q.elim
end
end FW

/-! FwM: dicts as data. -/
namespace FW
open PySem PySem.Spec L2
open PyProof.Rows hiding St
def sameK1 : D → D → Bool
  | .int i, .int j => decide (i = j)
  | .str x, .str y => decide (x = y)
  | _, _ => false
def sameKs : List D → List D → Bool
  | [], [] => true
  | a :: as, b :: bs => sameK1 a b && sameKs as bs
  | _, _ => false
def sameK : D → D → Bool
  | .tuple xs, .tuple ys => sameKs xs ys
  | a, b => sameK1 a b
def isK1 : D → Bool
  | .int _ => true
  | .str _ => true
  | _ => false
def isKey : Bool → D → Bool
  | false, d => isK1 d
  | true, .tuple ds => ds.all isK1
  | true, _ => false
theorem sameK1_kD (a b : Key) : sameK1 (kD a) (kD b) = decide (a = b) := by
  cases a <;> cases b <;> simp [kD, sameK1]
theorem sameK_kD (a b : Key) : sameK (kD a) (kD b) = decide (a = b) := by
  rw [← sameK1_kD]
  cases a <;> cases b <;> rfl
theorem sameKs_kD : ∀ a b : List Key, sameKs (a.map kD) (b.map kD) = decide (a = b)
  | [], [] => by simp [sameKs]
  | [], _ :: _ => by simp [sameKs]
  | _ :: _, [] => by simp [sameKs]
  | x :: a, y :: b => by
    rw [List.map_cons, List.map_cons, sameKs, sameKs_kD a b, sameK1_kD]
    simp
theorem sameK_kTD (a b : List Key) : sameK (kTD a) (kTD b) = decide (a = b) := sameKs_kD a b
theorem isK1_get {d : D} (h : isK1 d = true) : ∃ k, d = kD k := by
  cases d with
  | int i => exact ⟨.inl i, rfl⟩
  | str x => exact ⟨.inr x, rfl⟩
  | _ => cases h
theorem isK1_all : ∀ {ds : List D}, ds.all isK1 = true → ∃ ks : List Key, ds = ks.map kD
  | [], _ => ⟨[], rfl⟩
  | d :: ds, h => by
    rw [List.all_cons, Bool.and_eq_true] at h
    obtain ⟨k, rfl⟩ := isK1_get h.1
    obtain ⟨ks, rfl⟩ := isK1_all h.2
    exact ⟨k :: ks, rfl⟩
theorem isK1_kD (k : Key) : isK1 (kD k) = true := by cases k <;> rfl
theorem isKey_t {d : D} (h : isKey true d = true) : ∃ ks, d = kTD ks := by
  cases d with
  | tuple ds =>
    obtain ⟨ks, rfl⟩ := isK1_all h
    exact ⟨ks, rfl⟩
  | _ => cases h
theorem Rp.keyV {K : PySem.W.Frag} {Z : Hp} {y : V} {k : Key} (h : Rp K Z y (kD k)) : y = kV k := by
  cases k with
  | inl i => cases h; rfl
  | inr x => cases h; rfl
theorem RpA.keyV {K : PySem.W.Frag} {Z : Hp} : ∀ {ks : List Key} {vs : List V}, RpA K Z vs (ks.map kD) → vs = ks.map kV
  | [], _, h => by cases h; rfl
  | k :: ks, _, h => by
    cases h with
    | cons h1 h2 => rw [h1.keyV, RpA.keyV h2]; rfl
theorem RpA.ofKey {K : PySem.W.Frag} {Z : Hp} : ∀ ks : List Key, RpA K Z (ks.map kV) (ks.map kD)
  | [] => .nil
  | .inl i :: ks => .cons (.int i) (RpA.ofKey ks)
  | .inr x :: ks => .cons (.str x) (RpA.ofKey ks)
theorem Rp.keyT {K : PySem.W.Frag} {Z : Hp} {y : V} {ks : List Key} (h : Rp K Z y (kTD ks)) : ∃ b, y = .ref b ∧ Z b = some (.tup (ks.map kV)) := by
  unfold kTD at h
  cases h with
  | tup h1 h2 =>
    rw [h2.keyV] at h1
    exact ⟨_, rfl, h1⟩
/-! ### tables -/
def esGet (es : List (D × D)) (k : D) : Option D := (es.find? fun p => sameK p.1 k).map (·.2)
def esHas (es : List (D × D)) (k : D) : Bool := es.any fun p => sameK p.1 k
def esPut (es : List (D × D)) (k v : D) : List (D × D) := if esHas es k then es.map (fun p => if sameK p.1 k then (p.1, v) else p) else es ++ [(k, v)]
theorem esHas_get (es : List (D × D)) (k : D) : esHas es k = (esGet es k).isSome := by
  unfold esHas esGet
  induction es with
  | nil => rfl
  | cons p r ih =>
    cases e : sameK p.1 k with
    | true => simp [List.any_cons, List.find?_cons, e]
    | false =>
      rw [List.any_cons, List.find?_cons, e]
      exact ih
/-- both nothing, or both the same -/
inductive RpO (K : PySem.W.Frag) (Z : Hp) : Option V → Option D → Prop
  | no : RpO K Z none none
  | so {v : V} {d : D} : Rp K Z v d → RpO K Z (some v) (some d)
theorem RpO.isSome {K : PySem.W.Frag} {Z : Hp} {o : Option V} {u : Option D} (h : RpO K Z o u) : o.isSome = u.isSome := by cases h <;> rfl
theorem RpO.some {K : PySem.W.Frag} {Z : Hp} {o : Option V} {d : D} (h : RpO K Z o (some d)) : ∃ v, o = some v ∧ Rp K Z v d := by
  cases h with
  | so h => exact ⟨_, rfl, h⟩
theorem RpO.getD {K : PySem.W.Frag} {Z : Hp} {o : Option V} {u : Option D} {x : V} {d : D} (h : RpO K Z o u) (r : Rp K Z x d) : Rp K Z (o.getD x) (u.getD d) := by
  cases h with
  | no => exact r
  | so h => exact h
section
variable {K : PySem.W.Frag} {Z : Hp} {κ : Type} [DecidableEq κ] {enc : κ → D}
theorem tab_get (hE : ∀ a b, sameK (enc a) (enc b) = decide (a = b)) (k : κ) : ∀ {ks : List κ} {vs : List V} {ds : List D}, ks.length = ds.length → RpA K Z vs ds → RpO K Z (valV (ks.zip vs) k) (esGet ((ks.map enc).zip ds) (enc k))
  | [], _, _, _, _ => by simp [valV, esGet]; exact .no
  | _ :: _, _, [], h, _ => by simp at h
  | k' :: ks, _, d :: ds, h, .cons (v := v) (vs := vs) r rs => by
    have ih := tab_get hE k (ks := ks) (ds := ds) (by simpa using h) rs
    rw [List.zip_cons_cons, List.map_cons, List.zip_cons_cons]
    by_cases e : k' = k
    · rw [valV_pos e]
      unfold esGet
      rw [List.find?_cons_of_pos (by simp [hE, e])]
      exact .so r
    · rw [valV_neg e]
      unfold esGet at ih ⊢
      rw [List.find?_cons_of_neg (by simp [hE, e])]
      exact ih
theorem tab_repl (hE : ∀ a b, sameK (enc a) (enc b) = decide (a = b)) (k : κ) {v : V} {d : D} (r : Rp K Z v d) : ∀ {ks : List κ} {vs : List V} {ds : List D}, ks.length = ds.length → RpA K Z vs ds →
    ∃ vs' ds', ((ks.zip vs).map fun kv => if kv.1 = k then (kv.1, v) else kv) = ks.zip vs' ∧ ks.length = ds'.length ∧ RpA K Z vs' ds' ∧ (((ks.map enc).zip ds).map fun p => if sameK p.1 (enc k) then (p.1, d) else p) = (ks.map enc).zip ds'
  | [], _, _, h, q => ⟨[], [], by simp, by simp, .nil, by simp⟩
  | _ :: _, _, [], h, _ => by simp at h
  | k' :: ks, _, d0 :: ds, h, .cons (v := v0) (vs := vs) r0 rs => by
    obtain ⟨vs', ds', e1, e2, e3, e4⟩ := tab_repl hE k r (ks := ks) (ds := ds) (by simpa using h) rs
    by_cases e : k' = k
    · refine ⟨v :: vs', d :: ds', ?_, by simp [e2], .cons r e3, ?_⟩
      · rw [List.zip_cons_cons, List.map_cons, e1, List.zip_cons_cons]
        simp [e]
      · rw [List.map_cons, List.zip_cons_cons, List.map_cons, e4, List.zip_cons_cons]
        simp [hE, e]
    · refine ⟨v0 :: vs', d0 :: ds', ?_, by simp [e2], .cons r0 e3, ?_⟩
      · rw [List.zip_cons_cons, List.map_cons, e1, List.zip_cons_cons]
        simp [e]
      · rw [List.map_cons, List.zip_cons_cons, List.map_cons, e4, List.zip_cons_cons]
        simp [hE, e]
theorem tab_put (hE : ∀ a b, sameK (enc a) (enc b) = decide (a = b)) (k : κ) {v : V} {d : D} (r : Rp K Z v d) {ks : List κ} {vs : List V} {ds : List D} (hl : ks.length = ds.length) (rs : RpA K Z vs ds) :
    ∃ (ks' : List κ) (vs' : List V) (ds' : List D), putK (ks.zip vs) k v = ks'.zip vs' ∧ ks'.length = ds'.length ∧ RpA K Z vs' ds' ∧ esPut ((ks.map enc).zip ds) (enc k) d = (ks'.map enc).zip ds' := by
  have g := tab_get hE k hl rs
  unfold putK esPut
  rw [esHas_get, ← g.isSome, valV_any]
  by_cases e : (valV (ks.zip vs) k).isSome = true
  · obtain ⟨vs', ds', e1, e2, e3, e4⟩ := tab_repl hE k r hl rs
    rw [if_pos e, if_pos e]
    exact ⟨ks, vs', ds', e1, e2, e3, e4⟩
  · rw [if_neg e, if_neg e]
    have lv := rs.length
    refine ⟨ks ++ [k], vs ++ [v], ds ++ [d], ?_, by simp [hl], rs.append (.cons r .nil), ?_⟩
    · rw [List.zip_append (by omega)]
      rfl
    · rw [List.map_append, List.zip_append (by simp [hl])]
      rfl
end
section
variable {K : PySem.W.Frag}
theorem DicAt.len {Z : Hp} {o : Option HO} : ∀ {t : Bool} {es : List (D × D)}, DicAt K Z o t es → (∃ kvs : List (Key × V), o = some (.dK kvs) ∧ kvs.length = es.length) ∨ ∃ kvs : List (List Key × V), o = some (.dT kvs) ∧ kvs.length = es.length
  | false, _, ⟨ks, vs, ds, h1, h2, h3, h4⟩ => .inl ⟨_, h1, by subst h4; simp [h3.length]⟩
  | true, _, ⟨ks, vs, ds, h1, h2, h3, h4⟩ => .inr ⟨_, h1, by subst h4; simp [h3.length]⟩
theorem DicAt.get {Z H : Hp} {a : Addr} {u : HO} {y : V} {k : D} (sm : Same Z H) (hr : Rd H a u) : ∀ {t : Bool} {es : List (D × D)}, DicAt K Z (some u) t es → isKey t k = true → Rp K Z y k → ∃ o, DGet H a y o ∧ RpO K Z o (esGet es k)
  | false, _, ⟨ks, vs, ds, h1, h2, h3, h4⟩, hk, r => by
    obtain ⟨k', rfl⟩ := isK1_get hk
    cases h1
    subst h4
    exact ⟨_, .inl ⟨_, k', hr, r.keyV, rfl⟩, tab_get sameK_kD k' h2 h3⟩
  | true, _, ⟨ks, vs, ds, h1, h2, h3, h4⟩, hk, r => by
    obtain ⟨k', rfl⟩ := isKey_t hk
    cases h1
    subst h4
    obtain ⟨b, rfl, hb⟩ := r.keyT
    exact ⟨_, .inr ⟨_, k', b, hr, rfl, sm _ _ hb, rfl⟩, tab_get sameK_kTD k' h2 h3⟩
theorem DicAt.put {Z H : Hp} {a : Addr} {y v : V} {k d : D} (sm : Same Z H) : ∀ {t : Bool} {es : List (D × D)}, DicAt K Z (H a) t es → isKey t k = true → Rp K Z y k → Rp K Z v d → es.length < sizeLine →
    ∃ u, DPut H a y v (upd H a u) ∧ DicAt K Z (some u) t (esPut es k d)
  | false, _, ⟨ks, vs, ds, h1, h2, h3, h4⟩, hk, r, rv, hl => by
    obtain ⟨k', rfl⟩ := isK1_get hk
    subst h4
    obtain ⟨ks', vs', ds', e1, e2, e3, e4⟩ := tab_put sameK_kD k' rv h2 h3
    refine ⟨_, .inl ⟨_, k', h1, r.keyV, ?_, rfl⟩, ks', vs', ds', by rw [e1], e2, e3, e4⟩
    simp [h3.length] at hl ⊢
    omega
  | true, _, ⟨ks, vs, ds, h1, h2, h3, h4⟩, hk, r, rv, hl => by
    obtain ⟨k', rfl⟩ := isKey_t hk
    subst h4
    obtain ⟨b, rfl, hb⟩ := r.keyT
    obtain ⟨ks', vs', ds', e1, e2, e3, e4⟩ := tab_put sameK_kTD k' rv h2 h3
    refine ⟨_, .inr ⟨_, k', b, h1, rfl, sm _ _ hb, ?_, rfl⟩, ks', vs', ds', by rw [e1], e2, e3, e4⟩
    simp [h3.length] at hl ⊢
    omega
/-- data that is a dict -/
def dicOf : D → Option (Bool × List (D × D))
  | .dict ((.list [.none], .none) :: es) => some (true, es)
  | .dict ((.list [], _) :: _) => none
  | .dict es => some (false, es)
  | _ => none
theorem dicOf_false {ks : List Key} {ds : List D} : dicOf (.dict ((ks.map kD).zip ds)) = some (false, (ks.map kD).zip ds) := by
  cases ks with
  | nil => rfl
  | cons k ks =>
    cases ds with
    | nil => rfl
    | cons d ds => cases k <;> rfl
theorem dicOf_dictD {Z : Hp} {o : Option HO} : ∀ {t : Bool} {es : List (D × D)}, DicAt K Z o t es → dicOf (dictD t es) = some (t, es)
  | true, _, _ => rfl
  | false, _, ⟨ks, vs, ds, h1, h2, h3, h4⟩ => by subst h4; exact dicOf_false
theorem Lo.dicI {c : Cfg} {x : V} {d : D} {t : Bool} {es : List (D × D)} (sm : Same c.Z c.H) (h : Lo K c x d) (e : dicOf d = some (t, es)) : ∃ a u, x = .ref a ∧ Rd c.H a u ∧ DicAt K c.Z (some u) t es := by
  cases h with
  | z h =>
    cases h with
    | dk h1 h2 h3 =>
      rw [dicOf_false] at e
      cases e
      exact ⟨_, _, rfl, .inr ⟨_, sm _ _ h1⟩, _, _, _, rfl, h2, h3, rfl⟩
    | dt h1 h2 h3 =>
      cases e
      exact ⟨_, _, rfl, .inr ⟨_, sm _ _ h1⟩, _, _, _, rfl, h2, h3, rfl⟩
    | _ => cases e
  | o h1 h2 => cases e
  | d h1 =>
    rw [dicOf_dictD h1] at e
    cases e
    obtain ⟨u, e1, _⟩ := h1.obj
    exact ⟨_, u, rfl, .inl e1, by rw [← e1]; exact h1⟩
end
end FW

/-! FwF: operations. -/
namespace FW
open PySem PySem.Spec L2
open PyProof.Rows hiding St
section
variable {X : Cx} {W : WX} {pos : Pos}

/-! ### numbers -/
def intOp (g : Int → Int → Option Int) : D → D → Option D
  | .int i, .int j => (g i j).map PyData.int
  | _, _ => none
theorem intOp_some {g : Int → Int → Option Int} {a b d : D} (h : intOp g a b = some d) : ∃ i j k, a = .int i ∧ b = .int j ∧ g i j = some k ∧ d = .int k := by
  unfold intOp at h
  split at h
  · rename_i i j
    cases e : g i j with
    | none => rw [e] at h; cases h
    | some k =>
      rw [e] at h
      cases h
      exact ⟨i, j, k, rfl, rfl, e, rfl⟩
  · cases h
theorem opD_int {f : Value → Value → Sem Value} {C : Int → Int → Prop} {g : Int → Int → Int} {g' : Int → Int → Option Int} (h : OpR X f (rI C fun i j => .int (g i j))) (hg : ∀ i j k, g' i j = some k → C i j ∧ k = g i j) : OpD X W f (intOp g') := by
  refine ⟨_, h, fun x y a b d S σ c Q e hh ra rb q => ?_⟩
  obtain ⟨i, j, k, rfl, rfl, e2, rfl⟩ := intOp_some e
  cases ra.intI
  cases rb.intI
  obtain ⟨h1, rfl⟩ := hg i j k e2
  exact ⟨i, j, rfl, rfl, h1, q c _ (Stp.refl _) hh (.int _)⟩
theorem opD_int0 {f : Value → Value → Sem Value} {g : Int → Int → Int} {g' : Int → Int → Option Int} (h : OpR X f (rI0 fun i j => .int (g i j))) (hg : ∀ i j k, g' i j = some k → k = g i j) : OpD X W f (intOp g') := by
  refine ⟨_, h, fun x y a b d S σ c Q e hh ra rb q => ?_⟩
  obtain ⟨i, j, k, rfl, rfl, e2, rfl⟩ := intOp_some e
  cases ra.intI
  cases rb.intI
  cases hg i j k e2
  exact ⟨i, j, rfl, rfl, q c _ (Stp.refl _) hh (.int _)⟩
def subD : D → D → Option D := intOp fun i j => some (i - j)
theorem od_sub : OpD X W (binaryOp .Sub) subD := opD_int0 op_sub fun _ _ _ h => (Option.some.inj h).symm
def fdivD : D → D → Option D := intOp fun i j => if 0 < j ∧ j < 2 ^ 200 then some (i / j) else none
theorem od_fdiv : OpD X W (binaryOp .FloorDiv) fdivD := opD_int op_fdivW fun i j k h => by
  split at h
  · rename_i hj
    refine ⟨wide_div hj.1 (b := 200) ?_ (by decide) (by decide), (Option.some.inj h).symm⟩
    have h2 := hj.2
    have h1 := hj.1
    obtain ⟨n, rfl⟩ := Int.eq_ofNat_of_zero_le (Int.le_of_lt h1)
    show n < 2 ^ 200
    exact_mod_cast h2
  · cases h
def modD : D → D → Option D := intOp fun i j => if 0 < j then some (i % j) else none
theorem od_mod : OpD X W (binaryOp .Mod) modD := opD_int op_mod fun i j k h => by
  split at h
  · rename_i hj
    exact ⟨hj, (Option.some.inj h).symm⟩
  · cases h
def andD : D → D → Option D := intOp fun i j => some (Builtin.bitAnd i j)
theorem od_and : OpD X W (binaryOp .BitAnd) andD := opD_int0 op_and fun _ _ _ h => (Option.some.inj h).symm
def orD : D → D → Option D := intOp fun i j => some (Builtin.bitOr i j)
theorem od_or : OpD X W (binaryOp .BitOr) orD := opD_int0 op_or fun _ _ _ h => (Option.some.inj h).symm
def xorD : D → D → Option D := intOp fun i j => some (Builtin.bitXor i j)
theorem od_xor : OpD X W (binaryOp .BitXor) xorD := opD_int0 op_xor fun _ _ _ h => (Option.some.inj h).symm
def shlD : D → D → Option D := intOp fun i j => if 0 ≤ j ∧ j ≤ 1000000 ∧ i.natAbs < 2 ^ 64 then some (i * 2 ^ j.toNat) else none
theorem od_shl : OpD X W (binaryOp .LShift) shlD := opD_int op_shl fun i j k h => by
  split at h
  · rename_i hj
    exact ⟨hj, (Option.some.inj h).symm⟩
  · cases h
def shrD : D → D → Option D := intOp fun i j => if 0 ≤ j then some (i / 2 ^ j.toNat) else none
theorem od_shr : OpD X W (binaryOp .RShift) shrD := opD_int op_shr fun i j k h => by
  split at h
  · rename_i hj
    exact ⟨hj, (Option.some.inj h).symm⟩
  · cases h
/-- +: numbers, texts, tuples, lists -/
def addD : D → D → Option D
  | .int i, .int j => some (.int (i + j))
  | .str x, .str y => if x.length + y.length ≤ sizeLine then some (.str (x ++ y)) else none
  | .tuple xs, .tuple ys => if xs.length + ys.length ≤ sizeLine then some (.tuple (xs ++ ys)) else none
  | .list xs, .list ys => if xs.length + ys.length ≤ sizeLine then some (.list (xs ++ ys)) else none
  | _, _ => none
theorem Rp.tupI {K : PySem.W.Frag} {Z : Hp} {x : V} {ds : List D} (h : Rp K Z x (.tuple ds)) : ∃ a xs, x = .ref a ∧ SqT K Z a xs ∧ RpA K Z xs ds := by
  cases h with
  | tup h1 h2 => exact ⟨_, _, rfl, SqT.of h1, h2⟩
theorem Rp.tupS {K : PySem.W.Frag} {Z : Hp} {x : V} {ds : List D} (h : Rp K Z x (.tuple ds)) : ∃ a xs, x = .ref a ∧ Z a = some (.tup xs) ∧ RpA K Z xs ds := by
  cases h with
  | tup h1 h2 => exact ⟨_, _, rfl, h1, h2⟩
theorem Rp.lstI {K : PySem.W.Frag} {Z : Hp} {x : V} {ds : List D} (h : Rp K Z x (.list ds)) : ∃ a xs, x = .ref a ∧ Z a = some (.lst xs) ∧ RpA K Z xs ds := by
  cases h with
  | lst h1 h2 => exact ⟨_, _, rfl, h1, h2⟩
theorem RpA.nil_iff {K : PySem.W.Frag} {Z : Hp} {vs : List V} {ds : List D} (h : RpA K Z vs ds) : vs = [] ↔ ds = [] := by
  have := h.length
  constructor
  · rintro rfl
    exact List.eq_nil_of_length_eq_zero this.symm
  · rintro rfl
    exact List.eq_nil_of_length_eq_zero this
theorem od_add : OpD X W (binaryOp .Add) addD := by
  refine ⟨_, (op_add.or op_add_str).or (op_catA.or op_cat), fun x y a b d S σ c Q e hh ra rb q => ?_⟩
  unfold addD at e
  split at e
  · cases e
    cases ra.intI
    cases rb.intI
    exact .inl (.inl ⟨_, _, rfl, rfl, q c _ (Stp.refl _) hh (.int _)⟩)
  · split at e
    · rename_i hl
      cases e
      cases ra.strI
      cases rb.strI
      exact .inl (.inr ⟨_, _, rfl, rfl, hl, q c _ (Stp.refl _) hh (.str _)⟩)
    · cases e
  · split at e
    · rename_i hl
      cases e
      have ra' := ra.tupZ
      have rb' := rb.tupZ
      obtain ⟨p, xs, rfl, s1, r1⟩ := ra.tupI
      obtain ⟨p2, ys, rfl, s2, r2⟩ := rb.tupI
      refine .inr (.inl ⟨p, p2, xs, ys, rfl, rfl, sameT hh.zh s1, sameT hh.zh s2, by rw [r1.length, r2.length]; exact hl, fun e0 => ?_, fun e0 e1 => ?_, fun e0 e1 pn hp => ?_⟩)
      · have := (r1.nil_iff).mp e0
        subst this
        exact q c _ (Stp.refl _) hh rb'
      · have := (r2.nil_iff).mp e1
        subst this
        rw [List.append_nil] at q
        exact q c _ (Stp.refl _) hh ra'
      · obtain ⟨st, h2, r⟩ := hh.layT hp (r1.append r2)
        exact q _ _ st h2 r
    · cases e
  · split at e
    · rename_i hl
      cases e
      obtain ⟨p, xs, rfl, s1, r1⟩ := ra.lstI hh.zh
      obtain ⟨p2, ys, rfl, s2, r2⟩ := rb.lstI hh.zh
      refine .inr (.inr ⟨p, p2, xs, ys, rfl, rfl, s1, s2, by rw [r1.length, r2.length]; exact hl, fun pn hp => ?_⟩)
      obtain ⟨st, h2, r⟩ := hh.layL hp (r1.append r2)
      exact q _ _ st h2 r
    · cases e
  · cases e

/-! ### comparisons -/
def shal : Nat → D → Bool
  | 0, d => match d with
    | .list _ => false
    | .tuple _ => false
    | .dict _ => false
    | _ => true
  | n + 1, d => match d with
    | .list xs => xs.all (shal n)
    | .tuple xs => xs.all (shal n)
    | .dict _ => false
    | _ => true
theorem shalAll_depth {n : Nat} (ih : ∀ d, shal n d = true → PyData.depth d ≤ n) : ∀ xs : List D, xs.all (shal n) = true → PyData.depthAll xs ≤ n
  | [], _ => by simp [PyData.depthAll]
  | x :: xs, h => by
    rw [List.all_cons, Bool.and_eq_true] at h
    have h1 := ih x h.1
    have h2 := shalAll_depth ih xs h.2
    simp only [PyData.depthAll]
    omega
theorem shal_depth : ∀ (n : Nat) (d : D), shal n d = true → PyData.depth d ≤ n
  | 0, d, h => by cases d <;> first | exact Bool.noConfusion h | exact Nat.le_refl 0
  | n + 1, d, h => by
    cases d with
    | list xs =>
      have := shalAll_depth (shal_depth n) xs (by simpa [shal] using h)
      simp only [PyData.depth]
      omega
    | tuple xs =>
      have := shalAll_depth (shal_depth n) xs (by simpa [shal] using h)
      simp only [PyData.depth]
      omega
    | dict _ => simp [shal] at h
    | _ => simp [PyData.depth]
mutual
theorem noDict_plain : ∀ d : D, noDict d = true → d.plain = true
  | .none, _ => rfl
  | .bool _, _ => rfl
  | .int _, _ => rfl
  | .str _, _ => rfl
  | .list ds, h => noDictA_plain ds h
  | .tuple ds, h => noDictA_plain ds h
  | .dict _, h => by simp [noDict] at h
theorem noDictA_plain : ∀ ds : List D, noDictA ds = true → PyData.plainAll ds = true
  | [], _ => rfl
  | d :: ds, h => by
    simp only [noDictA, Bool.and_eq_true] at h
    simp [PyData.plainAll, noDict_plain d h.1, noDictA_plain ds h.2]
end
def rEqP (K : PySem.W.Frag) (u : Nat) (ng : Bool) : R2 := fun x y H Q => ∃ d e, Dp K H x d ∧ Dp K H y e ∧ d.plain = true ∧ e.plain = true ∧ u + min d.depth e.depth < cLine ∧ Q (.bl (if ng then !PyData.eqv d e else PyData.eqv d e)) H
theorem op_eqP : OpR X (compareOp .Eq) (rEqP X.K X.A.units false) := by
  intro pins s σ H x y v u Q I rx ry h
  obtain ⟨d, e, hd, he, pd, pe, hu, q⟩ := h
  obtain ⟨as, r1⟩ := Dp.reads I d x v hd rx
  obtain ⟨bs, r2⟩ := Dp.reads I e y u he ry
  exact SeqAt.eq_plain r1 r2 pd pe hu ⟨.bl _, H, I, rfl, q⟩
theorem op_neP : OpR X (compareOp .NotEq) (rEqP X.K X.A.units true) := by
  intro pins s σ H x y v u Q I rx ry h
  obtain ⟨d, e, hd, he, pd, pe, hu, q⟩ := h
  obtain ⟨as, r1⟩ := Dp.reads I d x v hd rx
  obtain ⟨bs, r2⟩ := Dp.reads I e y u he ry
  exact SeqAt.ne_plain r1 r2 pd pe hu ⟨.bl _, H, I, rfl, q⟩
def shal2 (a b : D) : Bool := shal 8 a || shal 8 b
theorem shal2_ok {a b : D} {u : Nat} (h : shal2 a b = true) (hu : u + 64 < cLine) : u + min a.depth b.depth < cLine := by
  unfold shal2 at h
  rw [Bool.or_eq_true] at h
  rcases h with h | h
  · have := shal_depth 8 a h
    omega
  · have := shal_depth 8 b h
    omega
/-- the two can be compared -/
def cmpOk (a b : D) : Bool := noDict a && noDict b && shal2 a b
def eqD (a b : D) : Option D := if cmpOk a b then some (.bool (PyData.eqv a b)) else none
def neD (a b : D) : Option D := if cmpOk a b then some (.bool (!PyData.eqv a b)) else none
theorem cmpOk_get {a b : D} (h : cmpOk a b = true) : noDict a = true ∧ noDict b = true ∧ shal2 a b = true := by
  unfold cmpOk at h
  rw [Bool.and_eq_true, Bool.and_eq_true] at h
  exact ⟨h.1.1, h.1.2, h.2⟩
theorem od_eq (hu : X.A.units + 64 < cLine) : OpD X W (compareOp .Eq) eqD := by
  refine ⟨_, op_eqP, fun x y a b d S σ c Q e hh ra rb q => ?_⟩
  unfold eqD at e
  split at e
  · rename_i hs
    obtain ⟨n1, n2, hs⟩ := cmpOk_get hs
    cases e
    exact ⟨a, b, ra.dp hh.zh n1, rb.dp hh.zh n2, noDict_plain a n1, noDict_plain b n2, shal2_ok hs hu, q c _ (Stp.refl _) hh (.bl _)⟩
  · cases e
theorem od_ne (hu : X.A.units + 64 < cLine) : OpD X W (compareOp .NotEq) neD := by
  refine ⟨_, op_neP, fun x y a b d S σ c Q e hh ra rb q => ?_⟩
  unfold neD at e
  split at e
  · rename_i hs
    obtain ⟨n1, n2, hs⟩ := cmpOk_get hs
    cases e
    exact ⟨a, b, ra.dp hh.zh n1, rb.dp hh.zh n2, noDict_plain a n1, noDict_plain b n2, shal2_ok hs hu, q c _ (Stp.refl _) hh (.bl _)⟩
  · cases e
def cmpI (g : Int → Int → Bool) : D → D → Option D
  | .int i, .int j => some (.bool (g i j))
  | _, _ => none
theorem od_cmpI {f : Value → Value → Sem Value} {g : Int → Int → Bool} (h : OpR X f (rI0 fun i j => .bl (g i j))) : OpD X W f (cmpI g) := by
  refine ⟨_, h, fun x y a b d S σ c Q e hh ra rb q => ?_⟩
  unfold cmpI at e
  split at e
  · cases e
    cases ra.intI
    cases rb.intI
    exact ⟨_, _, rfl, rfl, q c _ (Stp.refl _) hh (.bl _)⟩
  · cases e
def ltD : D → D → Option D := cmpI fun i j => decide (i < j)
def leD : D → D → Option D := cmpI fun i j => decide (i ≤ j)
def gtD : D → D → Option D := cmpI fun i j => decide (j < i)
def geD : D → D → Option D := cmpI fun i j => decide (j ≤ i)
theorem od_lt : OpD X W (compareOp .Lt) ltD := od_cmpI op_lt
theorem od_le : OpD X W (compareOp .LtE) leD := od_cmpI op_le
theorem od_gt : OpD X W (compareOp .Gt) gtD := od_cmpI op_gt
theorem od_ge : OpD X W (compareOp .GtE) geD := od_cmpI op_ge
/-- is, is not: None and truth values -/
def isD (a b : D) : Option D := match b with
  | .none => some (.bool (isNoneD a))
  | .bool y => match a with
    | .bool x => some (.bool (decide (x = y)))
    | _ => none
  | _ => none
def isntD (a b : D) : Option D := match b with
  | .none => some (.bool (!isNoneD a))
  | .bool y => match a with
    | .bool x => some (.bool (!decide (x = y)))
    | _ => none
  | _ => none
theorem od_is : OpD X W (compareOp .Is) isD := by
  refine ⟨_, op_isN.or op_isBl, fun x y a b d S σ c Q e hh ra rb q => ?_⟩
  unfold isD at e
  split at e
  · cases e
    cases rb.noneI
    refine .inl ⟨rfl, ?_⟩
    rw [ra.isNone]
    exact q c _ (Stp.refl _) hh (.bl _)
  · split at e
    · cases e
      cases ra.boolI
      cases rb.boolI
      exact .inr ⟨_, _, rfl, rfl, q c _ (Stp.refl _) hh (.bl _)⟩
    · cases e
  · cases e
theorem od_isnt : OpD X W (compareOp .IsNot) isntD := by
  refine ⟨_, op_notN.or op_notBl, fun x y a b d S σ c Q e hh ra rb q => ?_⟩
  unfold isntD at e
  split at e
  · cases e
    cases rb.noneI
    refine .inl ⟨rfl, ?_⟩
    rw [ra.isNone]
    exact q c _ (Stp.refl _) hh (.bl _)
  · split at e
    · cases e
      cases ra.boolI
      cases rb.boolI
      exact .inr ⟨_, _, rfl, rfl, q c _ (Stp.refl _) hh (.bl _)⟩
    · cases e
  · cases e
/-- in, not in: lists and tuples of data -/
def rInP (K : PySem.W.Frag) (u : Nat) (ng : Bool) : R2 := fun x y H Q => ∃ d ds, Dp K H x d ∧ (Dp K H y (.list ds) ∨ Dp K H y (.tuple ds)) ∧ d.plain = true ∧ PyData.plainAll ds = true ∧ u + 1 + min (PyData.depthAll ds) d.depth < cLine ∧
  Q (.bl (if ng then !ds.any fun z => PyData.eqv z d else ds.any fun z => PyData.eqv z d)) H
theorem op_inP : OpR X (compareOp .In) (rInP X.K X.A.units false) := by
  intro pins s σ H x y v u Q I rx ry h
  obtain ⟨d, ds, hd, he, pd, pe, hu, q⟩ := h
  obtain ⟨as, r1⟩ := Dp.reads I d x v hd rx
  rcases he with he | he
  · obtain ⟨bs, r2⟩ := Dp.reads I _ y u he ry
    exact SeqAt.in_list_data r2 r1 pe pd hu ⟨.bl _, H, I, rfl, q⟩
  · obtain ⟨bs, r2⟩ := Dp.reads I _ y u he ry
    exact SeqAt.in_tuple_data r2 r1 pe pd hu ⟨.bl _, H, I, rfl, q⟩
theorem op_notInP : OpR X (compareOp .NotIn) (rInP X.K X.A.units true) := by
  intro pins s σ H x y v u Q I rx ry h
  obtain ⟨d, ds, hd, he, pd, pe, hu, q⟩ := h
  obtain ⟨as, r1⟩ := Dp.reads I d x v hd rx
  rcases he with he | he
  · obtain ⟨bs, r2⟩ := Dp.reads I _ y u he ry
    exact SeqAt.notIn_list_data r2 r1 pe pd hu ⟨.bl _, H, I, rfl, q⟩
  · obtain ⟨bs, r2⟩ := Dp.reads I _ y u he ry
    exact SeqAt.notIn_tuple_data r2 r1 pe pd hu ⟨.bl _, H, I, rfl, q⟩
def itemsD : D → Option (List D)
  | .list ds => some ds
  | .tuple ds => some ds
  | _ => none
def inOk (ds : List D) (a : D) : Bool := noDict a && noDictA ds && shal 8 a
def inDic (d a : D) : Option Bool := (dicOf d).bind fun te => if isKey te.1 a then some (esHas te.2 a) else none
def inD (a b : D) : Option D := match b with
  | .dict es => (inDic (.dict es) a).map PyData.bool
  | b => (itemsD b).bind fun ds => if inOk ds a then some (.bool (ds.any fun z => PyData.eqv z a)) else none
def ninD (a b : D) : Option D := match b with
  | .dict es => (inDic (.dict es) a).map fun k => PyData.bool (!k)
  | b => (itemsD b).bind fun ds => if inOk ds a then some (.bool (!ds.any fun z => PyData.eqv z a)) else none
def rInDic (ng : Bool) : R2 := fun x y H Q => ∃ a o, y = .ref a ∧ DGet H a x o ∧ Q (.bl (if ng then !o.isSome else o.isSome)) H
theorem op_inDic (hu : X.A.units + 1 < cLine) : OpR X (compareOp .In) (rInDic false) := by
  intro pins s σ H x y v u Q I rx ry h
  obtain ⟨a, o, rfl, g, q⟩ := h
  cases (show u = Value.ref a from ry)
  exact d_in hu I g rx fun s' I' => ⟨.bl _, H, I', rfl, q⟩
theorem op_notInDic (hu : X.A.units + 1 < cLine) : OpR X (compareOp .NotIn) (rInDic true) := by
  intro pins s σ H x y v u Q I rx ry h
  obtain ⟨a, o, rfl, g, q⟩ := h
  cases (show u = Value.ref a from ry)
  exact d_notIn hu I g rx fun s' I' => ⟨.bl _, H, I', rfl, q⟩
theorem inDic_get {c : Cfg} {x y : V} {d a : D} {k : Bool} (sm : Same c.Z c.H) (e : inDic d a = some k) (ra : Rp X.K c.Z x a) (rb : Lo X.K c y d) : ∃ p o, y = .ref p ∧ DGet c.H p x o ∧ o.isSome = k := by
  obtain ⟨⟨t, es⟩, e1, e2⟩ := Option.bind_eq_some_iff.mp e
  dsimp only at e2
  split at e2
  · rename_i hk
    cases e2
    obtain ⟨p, u, rfl, hr, da⟩ := rb.dicI sm e1
    obtain ⟨o, g, ro⟩ := da.get sm hr hk ra
    exact ⟨p, o, rfl, g, by rw [ro.isSome, esHas_get]⟩
  · cases e2
theorem isKey_lo {c : Cfg} {x : V} {t : Bool} {d : D} (h : isKey t d = true) (r : Lo X.K c x d) : Rp X.K c.Z x d := by
  cases r with
  | z r => exact r
  | o h1 h2 => cases t <;> cases h
  | d h1 => cases t <;> cases h
theorem inDic_lo {c : Cfg} {x : V} {d a : D} {k : Bool} (e : inDic d a = some k) (r : Lo X.K c x a) : Rp X.K c.Z x a := by
  obtain ⟨⟨t, es⟩, e1, e2⟩ := Option.bind_eq_some_iff.mp e
  dsimp only at e2
  split at e2
  · rename_i hk
    exact isKey_lo hk r
  · cases e2
theorem Lo.items {K : PySem.W.Frag} {c : Cfg} {v : V} {b : D} {ds : List D} (sm : Same c.Z c.H) (h : Lo K c v b) (e : itemsD b = some ds) (n : noDictA ds = true) : Dp K c.H v (.list ds) ∨ Dp K c.H v (.tuple ds) := by
  cases b with
  | list es =>
    cases e
    exact .inl (h.dp sm n)
  | tuple es =>
    cases e
    exact .inr (h.dp sm n)
  | _ => cases e
theorem shal_in {ds : List D} {a : D} {u : Nat} (h : shal 8 a = true) (hu : u + 64 < cLine) : u + 1 + min (PyData.depthAll ds) a.depth < cLine := by
  have := shal_depth 8 a h
  omega
theorem inOk_get {ds : List D} {a : D} (h : inOk ds a = true) : noDict a = true ∧ noDictA ds = true ∧ shal 8 a = true := by
  unfold inOk at h
  rw [Bool.and_eq_true, Bool.and_eq_true] at h
  exact ⟨h.1.1, h.1.2, h.2⟩
theorem od_in (hu : X.A.units + 64 < cLine) : OpD X W (compareOp .In) inD := by
  refine ⟨_, (op_inDic (by omega)).or op_inP, fun x y a b d S σ c Q e hh ra rb q => ?_⟩
  unfold inD at e
  split at e
  · obtain ⟨k, e1, e2⟩ := Option.map_eq_some_iff.mp e
    cases e2
    obtain ⟨p, o, rfl, g, rfl⟩ := inDic_get hh.zh e1 (inDic_lo e1 ra) rb
    exact .inl ⟨p, o, rfl, g, q c _ (Stp.refl _) hh (.bl _)⟩
  refine .inr ?_
  obtain ⟨ds, e1, e2⟩ := Option.bind_eq_some_iff.mp e
  split at e2
  · rename_i hs
    obtain ⟨n1, n2, hs⟩ := inOk_get hs
    cases e2
    exact ⟨a, ds, ra.dp hh.zh n1, rb.items hh.zh e1 n2, noDict_plain a n1, noDictA_plain ds n2, shal_in hs hu, q c _ (Stp.refl _) hh (.bl _)⟩
  · cases e2
theorem od_nin (hu : X.A.units + 64 < cLine) : OpD X W (compareOp .NotIn) ninD := by
  refine ⟨_, (op_notInDic (by omega)).or op_notInP, fun x y a b d S σ c Q e hh ra rb q => ?_⟩
  unfold ninD at e
  split at e
  · obtain ⟨k, e1, e2⟩ := Option.map_eq_some_iff.mp e
    cases e2
    obtain ⟨p, o, rfl, g, rfl⟩ := inDic_get hh.zh e1 (inDic_lo e1 ra) rb
    exact .inl ⟨p, o, rfl, g, q c _ (Stp.refl _) hh (.bl _)⟩
  refine .inr ?_
  obtain ⟨ds, e1, e2⟩ := Option.bind_eq_some_iff.mp e
  split at e2
  · rename_i hs
    obtain ⟨n1, n2, hs⟩ := inOk_get hs
    cases e2
    exact ⟨a, ds, ra.dp hh.zh n1, rb.items hh.zh e1 n2, noDict_plain a n1, noDictA_plain ds n2, shal_in hs hu, q c _ (Stp.refl _) hh (.bl _)⟩
  · cases e2
end
end FW

/-! FwG: unary operators, chains, products, subscripts, slices, calls of built-ins, methods of lists. -/
namespace FW
open PySem PySem.Spec L2
open PyProof.Rows hiding St
section
variable {X : Cx} {W : WX} {pos : Pos}
def UnD (X : Cx) (W : WX) (f : Value → Sem Value) (g : D → Option D) : Prop := ∃ r : V → Hp → VK → Prop, UnR X f r ∧
  ∀ (x : V) (a d : D) (S : List Slot) (σ : Sg) (c : Cfg) (Q : VK), g a = some d → Holds X.K S σ c → Rp X.K c.Z x a → (∀ c' v, Stp c c' → Holds X.K S σ c' → Rp X.K c'.Z v d → Q v c'.H) → r x c.H Q
theorem de_un {op : UnaryOp} {g : D → Option D} {e : Expr} {f : EM D} (ho : UnD X W (unaryOp op) g) (he : DE X W e f) : DE X W (.UnaryOp op e pos) (eUn g f) := by
  obtain ⟨r, ho, hr⟩ := ho
  refine PE.wk (pe_un ho he) fun σ H Q q => ?_
  obtain ⟨S, Z, F, h, q⟩ := q
  refine ⟨S, Z, F, h, (Go.bind q).mono fun a S1 c1 s1 h1 q1 x rx => ?_⟩
  obtain ⟨d, e, k⟩ := Go.opt q1
  exact hr x a d S1 σ c1 Q e h1 rx fun c' v st hh rv => k c' st hh v rv
def negD : D → Option D
  | .int i => some (.int (-i))
  | _ => none
theorem ud_neg : UnD X W (unaryOp .USub) negD := by
  refine ⟨_, un_neg, fun x a d S σ c Q e hh ra q => ?_⟩
  unfold negD at e
  split at e
  · cases e
    cases ra
    exact ⟨_, rfl, q c _ (Stp.refl _) hh (.int _)⟩
  · cases e
/-- a < b < c -/
def eChain (g g' : D → D → Option D) (fa fb fc : EM D) : EM D := eBind fa fun a => eBind fb fun b => eBind (eOpt (g a b)) fun k => match k with
  | .bool true => eBind fc fun c => eOpt (g' b c)
  | .bool false => eRet (.bool false)
  | _ => fun _ => .bad
theorem chain_rd {r r' : R2} {g g' : D → D → Option D} {fa fb fc : EM D} (hr : ∀ (x y : V) (a b d : D) (S : List Slot) (σ : Sg) (c : Cfg) (Q : VK), g a b = some d → Holds X.K S σ c → Lo X.K c x a → Lo X.K c y b → (∀ c' v, Stp c c' → Holds X.K S σ c' → Rp X.K c'.Z v d → Q v c'.H) → r x y c.H Q)
    (hr' : ∀ (x y : V) (a b d : D) (S : List Slot) (σ : Sg) (c : Cfg) (Q : VK), g' a b = some d → Holds X.K S σ c → Lo X.K c x a → Lo X.K c y b → (∀ c' v, Stp c c' → Holds X.K S σ c' → Rp X.K c'.Z v d → Q v c'.H) → r' x y c.H Q) (σ : Sg) (H : Hp) (Q : VK)
    (q : tD (gx X W) (eChain g g' fa fb fc) σ H Q) : tChain r r' (tD (gx X W) fa) (tD (gx X W) fb) (tD (gx X W) fc) σ H Q := by
  obtain ⟨S, Z, F, h, q⟩ := q
  refine ⟨S, Z, F, h, (Go.bind q).mono fun a S1 c1 s1 h1 q1 x rx => ?_⟩
  refine ⟨S1, c1.Z, c1.F, h1, (Go.bind q1).mono fun b S2 c2 s2 h2 q2 y ry => ?_⟩
  obtain ⟨k, e, q3⟩ := Go.opt (Go.bind q2)
  refine hr x y a b k S2 σ c2 _ e h2 (.z (rx.mono s2.z)) (.z ry) fun c3 z s3 h3 rz => ?_
  have q4 := q3 c3 s3 h3
  cases k with
  | bool k =>
    cases rz
    refine ⟨k, rfl, ?_⟩
    cases k with
    | false => exact q4 _ (Stp.refl _) h3 _ (.bl _)
    | true =>
      refine iteT ?_
      refine ⟨S2, c3.Z, c3.F, h3, (Go.bind q4).mono fun cc S4 c4 s4 h4 q5 w rw' => ?_⟩
      obtain ⟨d, e, k⟩ := Go.opt q5
      exact hr' y w b cc d S4 σ c4 Q e h4 (.z ((ry.mono s3.z).mono s4.z)) (.z rw') fun c' v st hh rv => k c' st hh v rv
  | _ => exact q4.elim
theorem de_chain {op op' : CmpOp} {g g' : D → D → Option D} {a b c : Expr} {fa fb fc : EM D} (ho : OpD X W (compareOp op) g) (ho' : OpD X W (compareOp op') g') (ha : DE X W a fa) (hb : DE X W b fb) (hc : DE X W c fc) (hm : lastMarks [op, op'] [b, c] = false := by rfl) :
    DE X W (.Compare a [op, op'] [b, c] pos) (eChain g g' fa fb fc) := by
  obtain ⟨r, ho, hr⟩ := ho
  obtain ⟨r', ho', hr'⟩ := ho'
  exact PE.wk (pe_chain ho ho' ha hb hc (hm := hm)) (chain_rd hr hr')
theorem dt_chain {op op' : CmpOp} {g g' : D → D → Option D} {a b c : Expr} {fa fb fc : EM D} (ho : OpD X W (compareOp op) g) (ho' : OpD X W (compareOp op') g') (ha : DE X W a fa) (hb : DE X W b fb) (hc : DE X W c fc) (hm : lastMarks [op, op'] [b, c] = false := by rfl) :
    DT X W (.Compare a [op, op'] [b, c] pos) (bOf (eChain g g' fa fb fc)) := by
  obtain ⟨r, ho, hr⟩ := ho
  obtain ⟨r', ho', hr'⟩ := ho'
  exact PT.wk (pt_chain ho ho' ha hb hc (hm := hm)) fun σ H Q q => chain_rd hr hr' σ H _ (bof_rd σ H Q q)

/-! ### subscripts -/
def IxD (X : Cx) (W : WX) (g : D → D → Option D) : Prop := ∃ r : R2, IxR X r ∧
  ∀ (x y : V) (a b d : D) (S : List Slot) (σ : Sg) (c : Cfg) (Q : VK), g a b = some d → Holds X.K S σ c → Lo X.K c x a → Lo X.K c y b →
    (∀ c' v, Stp c c' → Holds X.K S σ c' → Rp X.K c'.Z v d → Q v c'.H) → r x y c.H Q
theorem de_ixG {g : D → D → Option D} {a b : Expr} {fa fb : EM D} (ho : IxD X W g) (ha : DE X W a fa) (hb : DE X W b fb) (hs : PlainIx b) : DE X W (.Subscript a b pos) (eBin g fa fb) := by
  obtain ⟨r, ho, hr⟩ := ho
  exact PE.wk (pe_ix ho ha (dl_e hb) hs) (bin_rd (ea := a) (eb := b) hr)
theorem subT_any {prog : Program} {w : World} {A : Around} {E : Value → Shared → Prop} {s : Shared} {value slice : Expr} {o i : Value} {T id : String} {Q : Value → Shared → Prop} (hT : s.TypeIs o T)
    (hl : typeLookup (.type T) "__getitem__" = pure (some (.builtin id))) (h : wpAny (model prog w) A (getItem o i) Q E s) (hs : subscripted slice false o i = operate [o, i] (getItem o i)) : wpAny (model prog w) A (subscriptTail value slice o i) Q E s := by
  unfold subscriptTail
  refine wpAny_bind ?_
  rw [getitemInPython_of_ne hT.not_modules]
  refine wpAny_bind (wpAny_specialOf hT hl ?_)
  have fin : wpAny (model prog w) A (subscripted slice false o i) (fun r s₃ => wpAny (model prog w) A (letTemporaryGo value o r >>= fun _ => pure r) Q E s₃) E s := by
    rw [hs]
    exact wpAny_operating (wpAny_mono h (fun r s₃ h₃ => wpAny_bind (wpAny_letTemporaryGo (wpAny_pure h₃))) fun _ _ x => x)
  first
    | exact wpAny_pure (wpAny_bind fin)
    | exact wpAny_bind (wpAny_pure (wpAny_bind fin))
    | exact wpAny_bind fin
def rIxDic : R2 := fun x y H Q => ∃ a v, x = .ref a ∧ DGet H a y (some v) ∧ Q v H
theorem ix_dic (hu : X.A.units + 1 < cLine) : IxR X rIxDic := by
  intro value slice pins s σ H x y v u Q I rx ry h hs
  obtain ⟨a, z, rfl, g, q⟩ := h
  cases (show v = Value.ref a from rx)
  exact subT_any (dict_typeIs I g) PySem.F.slot_dict_getitem.lookup (d_getItem hu I g ry fun w' s3 I3 rw' => ⟨z, H, I3, rw', q⟩) hs
def ixDic (d k : D) : Option D := (dicOf d).bind fun te => if isKey te.1 k then esGet te.2 k else none
def ixD : D → D → Option D
  | .dict es, k => ixDic (.dict es) k
  | .list ds, .int i => atI ds i
  | .tuple ds, .int i => atI ds i
  | .str z, .int i => if z.length ≤ sizeLine then (atI z.cps.toList i).map fun c => .str ⟨#[c]⟩ else none
  | _, _ => none
theorem RpA.atI {K : PySem.W.Frag} {Z : Hp} {vs : List V} {ds : List D} {i : Int} {d : D} (h : RpA K Z vs ds) (e : L2.atI ds i = some d) : ∃ v, L2.atI vs i = some v ∧ Rp K Z v d := by
  unfold L2.atI at e ⊢
  obtain ⟨j, e1, e2⟩ := Option.bind_eq_some_iff.mp e
  obtain ⟨v, e3, r⟩ := h.get e2
  refine ⟨v, ?_, r⟩
  rw [h.length, e1]
  exact e3
theorem ix_all (hu : X.A.units + 64 < cLine) : IxD X W ixD := by
  refine ⟨_, (ix_dic (by omega)).or ix_seq, fun x y a b d S σ c Q e hh ra rb q => ?_⟩
  unfold ixD at e
  split at e
  · obtain ⟨⟨t, es⟩, e1, e2⟩ := Option.bind_eq_some_iff.mp e
    dsimp only at e2
    split at e2
    · rename_i hk
      obtain ⟨p, u, rfl, hr, da⟩ := ra.dicI hh.zh e1
      obtain ⟨o, g, ro⟩ := da.get hh.zh hr hk (isKey_lo hk rb)
      rw [e2] at ro
      obtain ⟨v, rfl, rv⟩ := ro.some
      exact .inl ⟨p, v, rfl, g, q c v (Stp.refl _) hh rv⟩
    · cases e2
  all_goals first | refine .inr ?_ | skip
  all_goals first | skip | split at e
  · obtain ⟨p, xs, rfl, s1, r1⟩ := ra.lstI hh.zh
    cases rb.intI
    obtain ⟨v, e2, r⟩ := r1.atI e
    exact .inl ⟨p, xs, _, v, rfl, rfl, SqL.of s1, e2, q c v (Stp.refl _) hh r⟩
  · obtain ⟨p, xs, rfl, s1, r1⟩ := ra.tupI
    cases rb.intI
    obtain ⟨v, e2, r⟩ := r1.atI e
    exact .inr (.inl ⟨p, xs, _, v, rfl, rfl, sameT hh.zh s1, e2, q c v (Stp.refl _) hh r⟩)
  · split at e
    · rename_i hz
      cases ra.strI
      cases rb.intI
      obtain ⟨cc, e1, e2⟩ := Option.map_eq_some_iff.mp e
      subst e2
      exact .inr (.inr ⟨_, _, cc, rfl, rfl, hz, e1, q c _ (Stp.refl _) hh (.str _)⟩)
    · cases e
  · cases e
def eIx (fa fb : EM D) : EM D := eBin ixD fa fb
theorem de_ix {a b : Expr} {fa fb : EM D} (hu : X.A.units + 64 < cLine) (ha : DE X W a fa) (hb : DE X W b fb) (hs : PlainIx b := by intro _ _; rfl) : DE X W (.Subscript a b pos) (eIx fa fb) := de_ixG (ix_all hu) ha hb hs
/-- an item of a list that is held in a slot of its own -/
def eIxO (i : Nat) (fb : EM D) : EM D := eBinO ixD i fb
theorem de_ixO (hu : X.A.units + 64 < cLine) (i : Nat) {x : Str} {p : Pos} {b : Expr} {fb : EM D} (hb : DE X W b fb) (hN : X.N[i]? = some x := by rfl) (hv : Vis X.env.scope x := by first | exact Or.inl rfl | exact Or.inr (Or.inl rfl) | exact Or.inr (Or.inr rfl)) (hd : (x == ("__debug__" : Str)) = false := by decide)
    (hcd : (x == ("__classdict__" : Str)) = false := by decide) (hs : PlainIx b := by intro _ _; rfl) : DE X W (.Subscript (.Name x p) b pos) (eIxO i fb) := by
  obtain ⟨r, ho, hr⟩ := ix_all (X := X) (W := W) hu
  exact PE.wk (pe_ix ho (pe_var hN hv hd hcd) hb hs) (binO_rd hr)

/-! ### slices -/
def tO (G : Gx) (f : EM (Option Int)) : TO := fun σ H Q => ∃ S Z F, Holds G.K S σ ⟨Z, H, F⟩ ∧ Go G σ ⟨Z, H, F⟩ (f S) (fun o _ c' => Q o c'.H)
def DP (X : Cx) (W : WX) (e : Option Expr) (f : EM (Option Int)) : Prop := PO X e (tO (gx X W) f)
theorem PO.wk {e : Option Expr} {t t' : TO} (h : PO X e t) (i : ∀ σ H Q, t' σ H Q → t σ H Q) : PO X e t' := ⟨fun pins s σ H Q I q => h.run pins s σ H Q I (i _ _ _ q)⟩
def oNo : EM (Option Int) := eRet none
def asI : D → Option Int
  | .int i => some i
  | _ => none
def oSome (f : EM D) : EM (Option Int) := eBind f fun d => eBind (eOpt (asI d)) fun i => eRet (some i)
theorem dp_none : DP X W none oNo := PO.wk po_none fun σ H Q q => by
  obtain ⟨S, Z, F, h, q⟩ := q
  exact q _ (Stp.refl _) h
theorem dp_some {e : Expr} {f : EM D} (h : DE X W e f) : DP X W (some e) (oSome f) := PO.wk (po_some h) fun σ H Q q => by
  obtain ⟨S, Z, F, h, q⟩ := q
  refine ⟨S, Z, F, h, (Go.bind q).mono fun a S1 c1 s1 h1 q1 x rx => ?_⟩
  obtain ⟨i, e, k⟩ := Go.opt (Go.bind q1)
  cases a with
  | int j =>
    cases e
    cases rx
    exact ⟨i, rfl, k c1 (Stp.refl _) h1 c1 (Stp.refl _) h1⟩
  | _ => cases e
def cutD (ds : List D) (lo hi : Option Int) : List D := (ds.drop (HT.sIx ds.length 0 lo)).take (HT.sIx ds.length ds.length hi - HT.sIx ds.length 0 lo)
theorem RpA.cut {K : PySem.W.Frag} {Z : Hp} {vs : List V} {ds : List D} (h : RpA K Z vs ds) (lo hi : Option Int) : RpA K Z (cutV vs lo hi) (cutD ds lo hi) := by
  unfold cutV cutD
  rw [h.length]
  exact (h.drop _).take _
def slD (d : D) (lo hi : Option Int) : Option D := match d with
  | .list ds => some (.list (cutD ds lo hi))
  | .tuple ds => some (.tuple (cutD ds lo hi))
  | .str z => if z.length ≤ sizeLine then some (.str (cutS z lo hi)) else none
  | _ => none
def eSl (f : EM D) (lo hi : EM (Option Int)) : EM D := eBind f fun d => eBind lo fun l => eBind hi fun h => eOpt (slD d l h)
theorem cut_whole {ds : List D} {lo hi : Option Int} (h : HT.sIx ds.length 0 lo = 0 ∧ HT.sIx ds.length ds.length hi = ds.length) : cutD ds lo hi = ds := by
  unfold cutD
  rw [h.1, h.2]
  simp
theorem de_sl {e : Expr} {lo hi : Option Expr} {f : EM D} {l u : EM (Option Int)} {p2 : Pos} (he : DE X W e f) (hl : DP X W lo l) (hu : DP X W hi u) : DE X W (.Subscript e (.Slice lo hi none p2) pos) (eSl f l u) := by
  refine PE.wk (pe_slice ((sl_list.or sl_tupA).or sl_str) he hl hu) fun σ H Q q => ?_
  obtain ⟨S, Z, F, h, q⟩ := q
  refine ⟨S, Z, F, h, (Go.bind q).mono fun d S1 c1 s1 h1 q1 x rx => ?_⟩
  refine ⟨S1, c1.Z, c1.F, h1, (Go.bind q1).mono fun l2 S2 c2 s2 h2 q2 => ?_⟩
  refine ⟨S2, c2.Z, c2.F, h2, (Go.bind q2).mono fun u2 S3 c3 s3 h3 q3 => ?_⟩
  obtain ⟨dd, e, k⟩ := Go.opt q3
  have rx3 := (rx.mono s2.z).mono s3.z
  unfold slD at e
  split at e
  · cases e
    obtain ⟨p, xs, rfl, a1, r1⟩ := rx3.lstI
    refine .inl (.inl ⟨p, xs, rfl, SqL.of (h3.zh _ _ a1), fun pn hp => ?_⟩)
    obtain ⟨st, hh, r⟩ := h3.layL hp (r1.cut l2 u2)
    exact k _ st hh _ r
  · cases e
    obtain ⟨p, xs, rfl, a1, r1⟩ := rx3.tupI
    refine .inl (.inr ⟨p, xs, rfl, sameT h3.zh a1, fun hw => ?_, fun _ pn hp => ?_⟩)
    · rw [r1.length] at hw
      rw [cut_whole hw] at k
      exact k c3 (Stp.refl _) h3 _ rx3
    · obtain ⟨st, hh, r⟩ := h3.layT hp (r1.cut l2 u2)
      exact k _ st hh _ r
  · split at e
    · rename_i hz
      cases e
      cases rx3
      exact .inr ⟨_, rfl, hz, k c3 (Stp.refl _) h3 _ (.str _)⟩
    · cases e
  · cases e
/-- xs[::-1] of a list -/
def revD : D → Option D
  | .list ds => some (.list ds.reverse)
  | _ => none
theorem de_revL {e : Expr} {f : EM D} {k : Nat} {p1 p2 p3 : Pos} (he : DL X W e f) : DE X W (.Subscript e (.Slice none none (some (.UnaryOp .USub (.Constant (.int 1) k p1) p2)) p3) pos) (eUn revD f) := by
  refine PE.wk (pe_revL he) fun σ H Q q => ?_
  obtain ⟨S, Z, F, h, q⟩ := q
  refine ⟨S, Z, F, h, (Go.bind q).mono fun d S1 c1 s1 h1 q1 x rx => ?_⟩
  obtain ⟨dd, e, k⟩ := Go.opt q1
  unfold revD at e
  split at e
  · cases e
    obtain ⟨p, xs, rfl, a1, r1⟩ := rx.lstI h1.zh
    refine ⟨p, xs, rfl, SqL.of a1, fun pn hp => ?_⟩
    obtain ⟨st, hh, r⟩ := h1.layL hp r1.rev
    exact k _ st hh _ r
  · cases e

/-! ### calls of what is built in -/
inductive LoA (K : PySem.W.Frag) (c : Cfg) : List V → List D → Prop
  | nil : LoA K c [] []
  | cons {v : V} {vs : List V} {d : D} {ds : List D} : Lo K c v d → LoA K c vs ds → LoA K c (v :: vs) (d :: ds)
theorem LoA.of {K : PySem.W.Frag} {c : Cfg} : ∀ {ds : List D} {vs : List V}, RpA K c.Z vs ds → LoA K c vs ds
  | [], _, .nil => .nil
  | _ :: _, _, .cons h t => .cons (.z h) (LoA.of t)
theorem LoA.one {K : PySem.W.Frag} {c : Cfg} {vs : List V} {d : D} (h : LoA K c vs [d]) : ∃ v, vs = [v] ∧ Lo K c v d := by
  cases h with
  | cons h1 h2 =>
    cases h2
    exact ⟨_, rfl, h1⟩
theorem LoA.i1 {K : PySem.W.Frag} {c : Cfg} {vs : List V} {i : Int} (h : LoA K c vs [.int i]) : vs = [.int i] := by
  obtain ⟨v, rfl, r⟩ := h.one
  rw [r.intI]
theorem LoA.i2 {K : PySem.W.Frag} {c : Cfg} {vs : List V} {i j : Int} (h : LoA K c vs [.int i, .int j]) : vs = [.int i, .int j] := by
  cases h with
  | cons h1 h2 => rw [h1.intI, h2.i1]
def CallD (X : Cx) (W : WX) (f : Value) (g : List D → Option D) : Prop := ∃ r : List V → Hp → VK → Prop, CallR X f r ∧
  ∀ (vs : List V) (ds : List D) (d : D) (S : List Slot) (σ : Sg) (c : Cfg) (Q : VK), g ds = some d → Holds X.K S σ c → LoA X.K c vs ds → (∀ c' v, Stp c c' → Holds X.K S σ c' → Rp X.K c'.Z v d → Q v c'.H) → r vs c.H Q
def CallF (X : Cx) (W : WX) (f : Value) (g : List D → Option (List D)) : Prop := ∃ r : List V → Hp → VK → Prop, CallR X f r ∧
  ∀ (vs : List V) (ds es : List D) (S : List Slot) (σ : Sg) (c : Cfg) (Q : VK), g ds = some es → Holds X.K S σ c → LoA X.K c vs ds → (∀ c' p us, Stp c c' → Holds X.K S σ c' → c'.H p = none → RpA X.K c'.Z us es → Q (.ref p) (upd c'.H p (.lst us))) → r vs c.H Q
def eB (g : List D → Option D) (fa : EM (List D)) : EM D := eBind fa fun ds => eOpt (g ds)
def eBF (g : List D → Option (List D)) (fa : EM (List D)) : EM (List D) := eBind fa fun ds => eOpt (g ds)
variable {x : Str} {p : Pos} {e : Expr} {es : List Expr} {fa : EM (List D)}
theorem cb_rd {r : List V → Hp → VK → Prop} {g : List D → Option D} (hr : ∀ (vs : List V) (ds : List D) (d : D) (S : List Slot) (σ : Sg) (c : Cfg) (Q : VK), g ds = some d → Holds X.K S σ c → LoA X.K c vs ds → (∀ c' v, Stp c c' → Holds X.K S σ c' → Rp X.K c'.Z v d → Q v c'.H) → r vs c.H Q)
    (σ : Sg) (H : Hp) (Q : VK) (q : tD (gx X W) (eB g fa) σ H Q) : tCB r (tDs (gx X W) fa) σ H Q := by
  obtain ⟨S, Z, F, h, q⟩ := q
  refine ⟨S, Z, F, h, (Go.bind q).mono fun ds S1 c1 s1 h1 q1 vs rs => ?_⟩
  obtain ⟨d, e, k⟩ := Go.opt q1
  exact hr vs ds d S1 σ c1 Q e h1 (LoA.of rs) fun c' v st hh rv => k c' st hh v rv
theorem cf_rd {r : List V → Hp → VK → Prop} {g : List D → Option (List D)} (hr : ∀ (vs : List V) (ds es : List D) (S : List Slot) (σ : Sg) (c : Cfg) (Q : VK), g ds = some es → Holds X.K S σ c → LoA X.K c vs ds → (∀ c' p us, Stp c c' → Holds X.K S σ c' → c'.H p = none → RpA X.K c'.Z us es → Q (.ref p) (upd c'.H p (.lst us))) → r vs c.H Q)
    (σ : Sg) (H : Hp) (Q : VK) (q : tF (gx X W) (eBF g fa) σ H Q) : tCB r (tDs (gx X W) fa) σ H Q := by
  obtain ⟨S, Z, F, h, q⟩ := q
  refine ⟨S, Z, F, h, (Go.bind q).mono fun ds S1 c1 s1 h1 q1 vs rs => ?_⟩
  obtain ⟨d, e, k⟩ := Go.opt q1
  exact hr vs ds d S1 σ c1 Q e h1 (LoA.of rs) fun c' pn us st hh hp ru => k c' st hh pn us hp ru
theorem de_B {id : String} {g : List D → Option D} (hc : CallD X W (.builtin id) g) (hg : Gl X x) (hm : X.mg x = none) (hv : bootBuiltins x = some (.builtin id)) (ha : DA X W (e :: es) fa) (hn : x ≠ "__name__" := by decide) (hd : (x == ("__debug__" : Str)) = false := by decide)
    (hs : starEach (e :: es) X.env = (false, eval e X.env) :: starEach es X.env := by rfl) (hpl : (backTo pos (starEach es X.env)).any (·.1) = false := by rfl) : DE X W (.Call (.Name x p) (e :: es) [] pos) (eB g fa) := by
  obtain ⟨r, hc, hr⟩ := hc
  exact PE.wk (pe_callB hc hg hm hv ha (hn := hn) (hdb := hd) (he := hs) (hpl := hpl)) (cb_rd hr)
theorem de_Ty {T : String} {g : List D → Option D} (hc : CallD X W (.type T) g) (hg : Gl X x) (hm : X.mg x = none) (hv : bootBuiltins x = some (.type T)) (ha : DA X W (e :: es) fa) (hn : x ≠ "__name__" := by decide) (hd : (x == ("__debug__" : Str)) = false := by decide)
    (hs : starEach (e :: es) X.env = (false, eval e X.env) :: starEach es X.env := by rfl) (hpl : (backTo pos (starEach es X.env)).any (·.1) = false := by rfl) : DE X W (.Call (.Name x p) (e :: es) [] pos) (eB g fa) := by
  obtain ⟨r, hc, hr⟩ := hc
  exact PE.wk (pe_callTy hc hg hm hv ha (hn := hn) (hdb := hd) (he := hs) (hpl := hpl)) (cb_rd hr)
theorem df_B {id : String} {g : List D → Option (List D)} (hc : CallF X W (.builtin id) g) (hg : Gl X x) (hm : X.mg x = none) (hv : bootBuiltins x = some (.builtin id)) (ha : DA X W (e :: es) fa) (hn : x ≠ "__name__" := by decide) (hd : (x == ("__debug__" : Str)) = false := by decide)
    (hs : starEach (e :: es) X.env = (false, eval e X.env) :: starEach es X.env := by rfl) (hpl : (backTo pos (starEach es X.env)).any (·.1) = false := by rfl) : DF X W (.Call (.Name x p) (e :: es) [] pos) (eBF g fa) := by
  obtain ⟨r, hc, hr⟩ := hc
  exact PE.wk (pe_callB hc hg hm hv ha (hn := hn) (hdb := hd) (he := hs) (hpl := hpl)) (cf_rd hr)
theorem df_Ty {T : String} {g : List D → Option (List D)} (hc : CallF X W (.type T) g) (hg : Gl X x) (hm : X.mg x = none) (hv : bootBuiltins x = some (.type T)) (ha : DA X W (e :: es) fa) (hn : x ≠ "__name__" := by decide) (hd : (x == ("__debug__" : Str)) = false := by decide)
    (hs : starEach (e :: es) X.env = (false, eval e X.env) :: starEach es X.env := by rfl) (hpl : (backTo pos (starEach es X.env)).any (·.1) = false := by rfl) : DF X W (.Call (.Name x p) (e :: es) [] pos) (eBF g fa) := by
  obtain ⟨r, hc, hr⟩ := hc
  exact PE.wk (pe_callTy hc hg hm hv ha (hn := hn) (hdb := hd) (he := hs) (hpl := hpl)) (cf_rd hr)
/-- the one argument a list in a slot of its own -/
def eBO (g : List D → Option D) (i : Nat) : EM D := fun S => match slotAt S i with
  | some d => eOpt (g [d]) S
  | none => .bad
def eBFO (g : List D → Option (List D)) (i : Nat) : EM (List D) := fun S => match slotAt S i with
  | some d => eOpt (g [d]) S
  | none => .bad
theorem cbO_rd {r : List V → Hp → VK → Prop} {g : List D → Option D} {i : Nat} (hr : ∀ (vs : List V) (ds : List D) (d : D) (S : List Slot) (σ : Sg) (c : Cfg) (Q : VK), g ds = some d → Holds X.K S σ c → LoA X.K c vs ds → (∀ c' v, Stp c c' → Holds X.K S σ c' → Rp X.K c'.Z v d → Q v c'.H) → r vs c.H Q)
    (σ : Sg) (H : Hp) (Q : VK) (q : tD (gx X W) (eBO g i) σ H Q) : tCB r (tCons (tVar i) tNil) σ H Q := by
  obtain ⟨S, Z, F, h, q⟩ := q
  unfold eBO at q
  split at q
  · rename_i ds e
    obtain ⟨p, e2, r1⟩ := h.loAt e
    obtain ⟨d, e4, k⟩ := Go.opt q
    exact ⟨.ref p, e2, hr [.ref p] [ds] d S σ ⟨Z, H, F⟩ Q e4 h (.cons r1 .nil) fun c' v st hh rv => k c' st hh v rv⟩
  · exact q.elim
theorem cfO_rd {r : List V → Hp → VK → Prop} {g : List D → Option (List D)} {i : Nat} (hr : ∀ (vs : List V) (ds es : List D) (S : List Slot) (σ : Sg) (c : Cfg) (Q : VK), g ds = some es → Holds X.K S σ c → LoA X.K c vs ds → (∀ c' p us, Stp c c' → Holds X.K S σ c' → c'.H p = none → RpA X.K c'.Z us es → Q (.ref p) (upd c'.H p (.lst us))) → r vs c.H Q)
    (σ : Sg) (H : Hp) (Q : VK) (q : tF (gx X W) (eBFO g i) σ H Q) : tCB r (tCons (tVar i) tNil) σ H Q := by
  obtain ⟨S, Z, F, h, q⟩ := q
  unfold eBFO at q
  split at q
  · rename_i ds e
    obtain ⟨p, e2, r1⟩ := h.loAt e
    obtain ⟨d, e4, k⟩ := Go.opt q
    exact ⟨.ref p, e2, hr [.ref p] [ds] d S σ ⟨Z, H, F⟩ Q e4 h (.cons r1 .nil) fun c' pn us st hh hp ru => k c' st hh pn us hp ru⟩
  · exact q.elim
variable {y : Str} {p2 : Pos}
theorem de_BO {id : String} {g : List D → Option D} (i : Nat) (hc : CallD X W (.builtin id) g) (hg : Gl X x) (hm : X.mg x = none) (hv : bootBuiltins x = some (.builtin id)) (hN : X.N[i]? = some y := by rfl) (hvi : Vis X.env.scope y := by first | exact Or.inl rfl | exact Or.inr (Or.inl rfl) | exact Or.inr (Or.inr rfl)) (hdy : (y == ("__debug__" : Str)) = false := by decide)
    (hcd : (y == ("__classdict__" : Str)) = false := by decide) (hn : x ≠ "__name__" := by decide) (hd : (x == ("__debug__" : Str)) = false := by decide)
    (hs : starEach [.Name y p2] X.env = (false, eval (.Name y p2) X.env) :: starEach [] X.env := by rfl) (hpl : (backTo pos (starEach [] X.env)).any (·.1) = false := by rfl) : DE X W (.Call (.Name x p) [.Name y p2] [] pos) (eBO g i) := by
  obtain ⟨r, hc, hr⟩ := hc
  exact PE.wk (pe_callB hc hg hm hv (pa_cons (pe_var hN hvi hdy hcd) pa_nil hs) (hn := hn) (hdb := hd) (he := hs) (hpl := hpl)) (cbO_rd hr)
theorem de_TyO {T : String} {g : List D → Option D} (i : Nat) (hc : CallD X W (.type T) g) (hg : Gl X x) (hm : X.mg x = none) (hv : bootBuiltins x = some (.type T)) (hN : X.N[i]? = some y := by rfl) (hvi : Vis X.env.scope y := by first | exact Or.inl rfl | exact Or.inr (Or.inl rfl) | exact Or.inr (Or.inr rfl)) (hdy : (y == ("__debug__" : Str)) = false := by decide)
    (hcd : (y == ("__classdict__" : Str)) = false := by decide) (hn : x ≠ "__name__" := by decide) (hd : (x == ("__debug__" : Str)) = false := by decide)
    (hs : starEach [.Name y p2] X.env = (false, eval (.Name y p2) X.env) :: starEach [] X.env := by rfl) (hpl : (backTo pos (starEach [] X.env)).any (·.1) = false := by rfl) : DE X W (.Call (.Name x p) [.Name y p2] [] pos) (eBO g i) := by
  obtain ⟨r, hc, hr⟩ := hc
  exact PE.wk (pe_callTy hc hg hm hv (pa_cons (pe_var hN hvi hdy hcd) pa_nil hs) (hn := hn) (hdb := hd) (he := hs) (hpl := hpl)) (cbO_rd hr)
theorem RpA.one {K : PySem.W.Frag} {Z : Hp} {vs : List V} {d : D} (h : RpA K Z vs [d]) : ∃ v, vs = [v] ∧ Rp K Z v d := by
  cases h with
  | cons h1 h2 =>
    cases h2
    exact ⟨_, rfl, h1⟩
theorem RpA.two {K : PySem.W.Frag} {Z : Hp} {vs : List V} {d e : D} (h : RpA K Z vs [d, e]) : ∃ v u, vs = [v, u] ∧ Rp K Z v d ∧ Rp K Z u e := by
  cases h with
  | cons h1 h2 =>
    obtain ⟨u, rfl, h3⟩ := h2.one
    exact ⟨_, _, rfl, h1, h3⟩
def lenD : List D → Option D
  | [.list ds] => some (.int ds.length)
  | [.tuple ds] => some (.int ds.length)
  | [.str z] => if z.length ≤ sizeLine then some (.int z.length) else none
  | [.dict es] => (dicOf (.dict es)).map fun te => .int te.2.length
  | _ => none
theorem CallR.or' {f : Value} {r r' : List V → Hp → VK → Prop} (h : CallR X f r) (h' : CallR X f r') : CallR X f (fun vs H Q => r vs H Q ∨ r' vs H Q) := by
  intro pins s σ H xs us Q I rv q
  rcases q with q | q
  · exact h pins s σ H xs us Q I rv q
  · exact h' pins s σ H xs us Q I rv q
def rLenDic : List V → Hp → VK → Prop := fun xs H Q => ∃ (a : Addr) (u : HO) (n : Nat), xs = [.ref a] ∧ Rd H a u ∧ ((∃ kvs : List (Key × V), u = .dK kvs ∧ kvs.length = n) ∨ ∃ kvs : List (List Key × V), u = .dT kvs ∧ kvs.length = n) ∧ Q (.int n) H
theorem call_lenDic : CallR X (.builtin "len") rLenDic := by
  intro pins s σ H xs us Q I r h
  obtain ⟨a, u, n, rfl, hr, hk, q⟩ := h
  obtain rfl := Vals.ref1 r
  rcases hk with ⟨kvs, rfl, rfl⟩ | ⟨kvs, rfl, rfl⟩
  · obtain ⟨z, hd, vs, rel, dd⟩ := dk_rd I.hok hr
    refine call_len_dict hd dd (by rw [← rel.length]; rw [sizeLine_eq] at z; omega) ?_
    rw [← rel.length]
    exact ⟨.int kvs.length, H, I.tok _, ⟨_, rfl⟩, q⟩
  · obtain ⟨z, hd, xs, rel, dd⟩ := dt_rd I.hok hr
    have hl : kvs.length = xs.length := Paired.length rel
    refine call_len_dictH hd dd (by rw [← hl]; rw [sizeLine_eq] at z; omega) ?_
    rw [← hl]
    exact ⟨.int kvs.length, H, I.tok _, ⟨_, rfl⟩, q⟩
theorem cd_len : CallD X W (.builtin "len") lenD := by
  refine ⟨_, CallR.or' call_lenDic call_len, fun vs ds d S σ c Q e hh rs q => ?_⟩
  by_cases hD : ∃ es, ds = [.dict es]
  · obtain ⟨es, rfl⟩ := hD
    obtain ⟨te, e1, e2⟩ := Option.map_eq_some_iff.mp (show (dicOf (.dict es)).map (fun te => PyData.int te.2.length) = some d from e)
    cases e2
    obtain ⟨v, rfl, r⟩ := rs.one
    obtain ⟨p, u, rfl, hr, da⟩ := r.dicI (t := te.1) (es := te.2) hh.zh e1
    refine .inl ⟨p, u, te.2.length, rfl, hr, ?_, q c _ (Stp.refl _) hh (.int _)⟩
    rcases da.len with ⟨kvs, h1, h2⟩ | ⟨kvs, h1, h2⟩
    · cases h1; exact .inl ⟨kvs, rfl, h2⟩
    · cases h1; exact .inr ⟨kvs, rfl, h2⟩
  refine .inr ?_
  unfold lenD at e
  split at e
  · cases e
    obtain ⟨v, rfl, r⟩ := rs.one
    obtain ⟨a, xs, rfl, a1, r1⟩ := r.lstI hh.zh
    exact ⟨_, _, rfl, .inl ⟨xs, SqL.of a1, r1.length.symm⟩, q c _ (Stp.refl _) hh (.int _)⟩
  · cases e
    obtain ⟨v, rfl, r⟩ := rs.one
    obtain ⟨a, xs, rfl, a1, r1⟩ := r.tupI
    exact ⟨_, _, rfl, .inr ⟨xs, sameT hh.zh a1, r1.length.symm⟩, q c _ (Stp.refl _) hh (.int _)⟩
  · split at e
    · rename_i hz
      cases e
      obtain ⟨v, rfl, r⟩ := rs.one
      cases r.strI
      exact ⟨_, _, rfl, ⟨hz, rfl⟩, q c _ (Stp.refl _) hh (.int _)⟩
    · cases e
  · exact absurd ⟨_, rfl⟩ hD
  · cases e
/-- lists of numbers, of truth values -/
def allI : List D → Option (List Int)
  | [] => some []
  | .int i :: ds => (allI ds).map (i :: ·)
  | _ :: _ => none
def allB : List D → Option (List Bool)
  | [] => some []
  | .bool i :: ds => (allB ds).map (i :: ·)
  | _ :: _ => none
theorem allI_ok : ∀ {ds : List D} {ns : List Int}, allI ds = some ns → ds = ns.map PyData.int
  | [], _, h => by cases h; rfl
  | .int i :: ds, ns, h => by
    obtain ⟨ms, e1, e2⟩ := Option.map_eq_some_iff.mp (show (allI ds).map (i :: ·) = some ns from h)
    subst e2
    rw [allI_ok e1]
    rfl
theorem allB_ok : ∀ {ds : List D} {ns : List Bool}, allB ds = some ns → ds = ns.map PyData.bool
  | [], _, h => by cases h; rfl
  | .bool i :: ds, ns, h => by
    obtain ⟨ms, e1, e2⟩ := Option.map_eq_some_iff.mp (show (allB ds).map (i :: ·) = some ns from h)
    subst e2
    rw [allB_ok e1]
    rfl
theorem allI_map (ns : List Int) : allI (ns.map PyData.int) = some ns := by
  induction ns with
  | nil => rfl
  | cons n ns ih =>
    show (allI (ns.map PyData.int)).map (n :: ·) = _
    rw [ih]
    rfl
theorem allB_map (ns : List Bool) : allB (ns.map PyData.bool) = some ns := by
  induction ns with
  | nil => rfl
  | cons n ns ih =>
    show (allB (ns.map PyData.bool)).map (n :: ·) = _
    rw [ih]
    rfl
theorem RpA.intsV {K : PySem.W.Frag} {Z : Hp} : ∀ {ns : List Int} {vs : List V}, RpA K Z vs (ns.map PyData.int) → vs = ns.map V.int
  | [], _, h => by cases h; rfl
  | n :: ns, _, h => by
    cases h with
    | cons h1 h2 =>
      cases h1
      rw [RpA.intsV h2]
      rfl
theorem RpA.blsV {K : PySem.W.Frag} {Z : Hp} : ∀ {ns : List Bool} {vs : List V}, RpA K Z vs (ns.map PyData.bool) → vs = ns.map V.bl
  | [], _, h => by cases h; rfl
  | n :: ns, _, h => by
    cases h with
    | cons h1 h2 =>
      cases h1
      rw [RpA.blsV h2]
      rfl
theorem RpA.ofI {K : PySem.W.Frag} {Z : Hp} : ∀ (ns : List Int), RpA K Z (ns.map V.int) (ns.map PyData.int)
  | [] => .nil
  | n :: ns => .cons (.int n) (RpA.ofI ns)
def sumD : List D → Option D
  | [.list ds] => (allI ds).map fun ns => .int ns.sum
  | _ => none
theorem cd_sum (hc : X.calm = true) : CallD X W (.builtin "sum") sumD := by
  refine ⟨_, cr_sum hc, fun vs ds d S σ c Q e hh rs q => ?_⟩
  unfold sumD at e
  split at e
  · obtain ⟨ns, e1, e2⟩ := Option.map_eq_some_iff.mp e
    subst e2
    obtain ⟨v, rfl, r⟩ := rs.one
    obtain ⟨a, xs, rfl, a1, r1⟩ := r.lstI hh.zh
    rw [allI_ok e1] at r1
    cases r1.intsV
    exact ⟨a, ns, rfl, SqL.of a1, q c _ (Stp.refl _) hh (.int _)⟩
  · cases e
def allD : List D → Option D
  | [.list ds] => (allB ds).map fun ns => .bool (ns.all id)
  | _ => none
def anyD : List D → Option D
  | [.list ds] => (allB ds).map fun ns => .bool (ns.any id)
  | _ => none
theorem cd_all (hc : X.calm = true) : CallD X W (.builtin "all") allD := by
  refine ⟨_, cr_all hc, fun vs ds d S σ c Q e hh rs q => ?_⟩
  unfold allD at e
  split at e
  · obtain ⟨ns, e1, e2⟩ := Option.map_eq_some_iff.mp e
    subst e2
    obtain ⟨v, rfl, r⟩ := rs.one
    obtain ⟨a, xs, rfl, a1, r1⟩ := r.lstI hh.zh
    rw [allB_ok e1] at r1
    cases r1.blsV
    exact ⟨a, ns, rfl, SqL.of a1, q c _ (Stp.refl _) hh (.bl _)⟩
  · cases e
theorem cd_any (hc : X.calm = true) : CallD X W (.builtin "any") anyD := by
  refine ⟨_, cr_any hc, fun vs ds d S σ c Q e hh rs q => ?_⟩
  unfold anyD at e
  split at e
  · obtain ⟨ns, e1, e2⟩ := Option.map_eq_some_iff.mp e
    subst e2
    obtain ⟨v, rfl, r⟩ := rs.one
    obtain ⟨a, xs, rfl, a1, r1⟩ := r.lstI hh.zh
    rw [allB_ok e1] at r1
    cases r1.blsV
    exact ⟨a, ns, rfl, SqL.of a1, q c _ (Stp.refl _) hh (.bl _)⟩
  · cases e
def absD : List D → Option D
  | [.int i] => some (.int (if i < 0 then -i else i))
  | _ => none
theorem cd_abs : CallD X W (.builtin "abs") absD := by
  refine ⟨_, call_abs, fun vs ds d S σ c Q e hh rs q => ?_⟩
  unfold absD at e
  split at e
  · cases e
    cases rs.i1
    exact ⟨_, rfl, q c _ (Stp.refl _) hh (.int _)⟩
  · cases e
def intD : List D → Option D
  | [.int i] => some (.int i)
  | [.bool b] => some (.int (if b then 1 else 0))
  | _ => none
theorem cd_int : CallD X W (.type "int") intD := by
  refine ⟨_, call_int1, fun vs ds d S σ c Q e hh rs q => ?_⟩
  unfold intD at e
  split at e
  · cases e
    cases rs.i1
    exact .inl ⟨_, rfl, q c _ (Stp.refl _) hh (.int _)⟩
  · cases e
    obtain ⟨v, rfl, r⟩ := rs.one
    cases r.boolI
    exact .inr ⟨_, rfl, q c _ (Stp.refl _) hh (.int _)⟩
  · cases e
def tupleD : List D → Option D
  | [.list ds] => some (.tuple ds)
  | [.tuple ds] => some (.tuple ds)
  | _ => none
theorem cd_tuple : CallD X W (.type "tuple") tupleD := by
  refine ⟨_, call_tuple_of, fun vs ds d S σ c Q e hh rs q => ?_⟩
  unfold tupleD at e
  split at e
  · cases e
    obtain ⟨v, rfl, r⟩ := rs.one
    obtain ⟨a, xs, rfl, a1, r1⟩ := r.lstI hh.zh
    refine ⟨a, xs, rfl, .inl ⟨SqL.of a1, fun pn hp => ?_⟩⟩
    obtain ⟨st, h2, r2⟩ := hh.layT hp r1
    exact q _ _ st h2 r2
  · cases e
    obtain ⟨v, rfl, r⟩ := rs.one
    obtain ⟨a, xs, rfl, a1, r1⟩ := r.tupZ.tupS
    exact ⟨a, xs, rfl, .inr ⟨sameT hh.zh (SqT.of a1), q c _ (Stp.refl _) hh (.tup a1 r1)⟩⟩
  · cases e
def listD : List D → Option (List D)
  | [.list ds] => some ds
  | [.tuple ds] => some ds
  | _ => none
theorem cf_list : CallF X W (.type "list") listD := by
  refine ⟨_, call_list_of, fun vs ds es S σ c Q e hh rs q => ?_⟩
  unfold listD at e
  split at e
  · cases e
    obtain ⟨v, rfl, r⟩ := rs.one
    obtain ⟨a, xs, rfl, a1, r1⟩ := r.lstI hh.zh
    exact ⟨a, xs, rfl, .inl (SqL.of a1), fun pn hp => q c pn xs (Stp.refl _) hh hp r1⟩
  · cases e
    obtain ⟨v, rfl, r⟩ := rs.one
    obtain ⟨a, xs, rfl, a1, r1⟩ := r.tupI
    exact ⟨a, xs, rfl, .inr (sameT hh.zh a1), fun pn hp => q c pn xs (Stp.refl _) hh hp r1⟩
  · cases e
def maxI : List Int → Option Int
  | [] => none
  | n :: ns => some (ns.foldl (fun a b => if a < b then b else a) n)
def minI : List Int → Option Int
  | [] => none
  | n :: ns => some (ns.foldl (fun a b => if b < a then b else a) n)
theorem fmax : ∀ (ns : List Int) (n : Int), (ns.foldl (fun a b => if a < b then b else a) n = n ∨ ns.foldl (fun a b => if a < b then b else a) n ∈ ns) ∧ n ≤ ns.foldl (fun a b => if a < b then b else a) n ∧ ∀ y ∈ ns, y ≤ ns.foldl (fun a b => if a < b then b else a) n
  | [], n => ⟨.inl rfl, Int.le_refl _, fun y h => by simp at h⟩
  | m :: ns, n => by
    rw [List.foldl_cons]
    obtain ⟨h1, h2, h3⟩ := fmax ns (if n < m then m else n)
    by_cases h : n < m
    · rw [if_pos h] at h1 h2 h3 ⊢
      refine ⟨?_, by omega, fun y hy => ?_⟩
      · rcases h1 with h1 | h1
        · rw [h1]; simp
        · simp [h1]
      · rcases List.mem_cons.mp hy with e | hy
        · rw [e]; exact h2
        · exact h3 y hy
    · rw [if_neg h] at h1 h2 h3 ⊢
      refine ⟨?_, h2, fun y hy => ?_⟩
      · rcases h1 with h1 | h1
        · exact .inl h1
        · simp [h1]
      · rcases List.mem_cons.mp hy with e | hy
        · rw [e]; omega
        · exact h3 y hy
theorem fmin : ∀ (ns : List Int) (n : Int), (ns.foldl (fun a b => if b < a then b else a) n = n ∨ ns.foldl (fun a b => if b < a then b else a) n ∈ ns) ∧ ns.foldl (fun a b => if b < a then b else a) n ≤ n ∧ ∀ y ∈ ns, ns.foldl (fun a b => if b < a then b else a) n ≤ y
  | [], n => ⟨.inl rfl, Int.le_refl _, fun y h => by simp at h⟩
  | m :: ns, n => by
    rw [List.foldl_cons]
    obtain ⟨h1, h2, h3⟩ := fmin ns (if m < n then m else n)
    by_cases h : m < n
    · rw [if_pos h] at h1 h2 h3 ⊢
      refine ⟨?_, by omega, fun y hy => ?_⟩
      · rcases h1 with h1 | h1
        · rw [h1]; simp
        · simp [h1]
      · rcases List.mem_cons.mp hy with e | hy
        · rw [e]; exact h2
        · exact h3 y hy
    · rw [if_neg h] at h1 h2 h3 ⊢
      refine ⟨?_, h2, fun y hy => ?_⟩
      · rcases h1 with h1 | h1
        · exact .inl h1
        · simp [h1]
      · rcases List.mem_cons.mp hy with e | hy
        · rw [e]; omega
        · exact h3 y hy
theorem maxI_spec {ns : List Int} {m : Int} (h : maxI ns = some m) : m ∈ ns ∧ ∀ y ∈ ns, y ≤ m := by
  cases ns with
  | nil => cases h
  | cons n ns =>
    cases h
    obtain ⟨h1, h2, h3⟩ := fmax ns n
    refine ⟨?_, fun y hy => ?_⟩
    · rcases h1 with h1 | h1
      · rw [h1]; simp
      · simp [h1]
    · rcases List.mem_cons.mp hy with e | hy
      · rw [e]; exact h2
      · exact h3 y hy
theorem minI_spec {ns : List Int} {m : Int} (h : minI ns = some m) : m ∈ ns ∧ ∀ y ∈ ns, m ≤ y := by
  cases ns with
  | nil => cases h
  | cons n ns =>
    cases h
    obtain ⟨h1, h2, h3⟩ := fmin ns n
    refine ⟨?_, fun y hy => ?_⟩
    · rcases h1 with h1 | h1
      · rw [h1]; simp
      · simp [h1]
    · rcases List.mem_cons.mp hy with e | hy
      · rw [e]; exact h2
      · exact h3 y hy
def maxD : List D → Option D
  | [.list ds] => ((allI ds).bind maxI).map PyData.int
  | [.int i, .int j] => some (.int (if j > i then j else i))
  | _ => none
def minD : List D → Option D
  | [.list ds] => ((allI ds).bind minI).map PyData.int
  | [.int i, .int j] => some (.int (if j < i then j else i))
  | _ => none
theorem cd_max (hc : X.calm = true) : CallD X W (.builtin "max") maxD := by
  refine ⟨_, (cr_max hc).or (call_max2 hc), fun vs ds d S σ c Q e hh rs q => ?_⟩
  unfold maxD at e
  split at e
  · obtain ⟨m, e1, e2⟩ := Option.map_eq_some_iff.mp e
    obtain ⟨ns, e3, e4⟩ := Option.bind_eq_some_iff.mp e1
    subst e2
    obtain ⟨v, rfl, r⟩ := rs.one
    obtain ⟨a, xs, rfl, a1, r1⟩ := r.lstI hh.zh
    rw [allI_ok e3] at r1
    cases r1.intsV
    obtain ⟨m1, m2⟩ := maxI_spec e4
    refine .inl ⟨a, ns, rfl, SqL.of a1, List.length_pos_of_mem m1, fun k k1 k2 => ?_⟩
    have : k = m := by
      have := k2 m m1
      have := m2 k k1
      omega
    subst this
    exact q c _ (Stp.refl _) hh (.int _)
  · cases e
    cases rs.i2
    exact .inr ⟨_, _, rfl, q c _ (Stp.refl _) hh (.int _)⟩
  · cases e
theorem cd_min (hc : X.calm = true) : CallD X W (.builtin "min") minD := by
  refine ⟨_, (cr_min hc).or (call_min2 hc), fun vs ds d S σ c Q e hh rs q => ?_⟩
  unfold minD at e
  split at e
  · obtain ⟨m, e1, e2⟩ := Option.map_eq_some_iff.mp e
    obtain ⟨ns, e3, e4⟩ := Option.bind_eq_some_iff.mp e1
    subst e2
    obtain ⟨v, rfl, r⟩ := rs.one
    obtain ⟨a, xs, rfl, a1, r1⟩ := r.lstI hh.zh
    rw [allI_ok e3] at r1
    cases r1.intsV
    obtain ⟨m1, m2⟩ := minI_spec e4
    refine .inl ⟨a, ns, rfl, SqL.of a1, List.length_pos_of_mem m1, fun k k1 k2 => ?_⟩
    have : k = m := by
      have := k2 m m1
      have := m2 k k1
      omega
    subst this
    exact q c _ (Stp.refl _) hh (.int _)
  · cases e
    cases rs.i2
    exact .inr ⟨_, _, rfl, q c _ (Stp.refl _) hh (.int _)⟩
  · cases e
end
end FW

/-! FwH: lists that are changed, isinstance, borrowed lists. -/
namespace FW
open PySem PySem.Spec L2
open PyProof.Rows hiding St
section
variable {X : Cx} {W : WX} {pos : Pos}
/-- a list in a slot of its own is changed -/
theorem Holds.mutO {K : PySem.W.Frag} {S : List Slot} {σ : Sg} {c : Cfg} {i : Nat} {ds : List D} (h : Holds K S σ c) (e : S[i]? = some (.own ds)) :
    ∃ p vs, σ[i]? = some (some (V.ref p)) ∧ c.H p = some (.lst vs) ∧ RpA K c.Z vs ds ∧ ∀ ds' vs', RpA K c.Z vs' ds' →
      Stp c ⟨c.Z, upd c.H p (.lst vs'), c.F⟩ ∧ Holds K (S.set i (.own ds')) σ ⟨c.Z, upd c.H p (.lst vs'), c.F⟩ := by
  obtain ⟨A, Fi, B, x, e1, e2, ⟨p, vs, e3, e4, e5, e6⟩, up⟩ := h.l.at e
  subst e3 e4
  have pF : p ∈ c.F := by rw [e1]; simp
  refine ⟨p, vs, e2, e5, e6, fun ds' vs' r => ⟨⟨Same.refl _, fun b o q hn => (upd_ne (show b ≠ p from fun z => hn (z ▸ pF))).trans q, fun b o q => ?_, fun b o q => .inl q, fun b m => .inl m⟩, ⟨?_, h.nd, h.zf, fun b o q => ?_⟩⟩⟩
  · by_cases hb : b = p
    · subst hb
      exact ⟨_, upd_same⟩
    · exact ⟨o, (upd_ne hb).trans q⟩
  · have nd := h.nd
    rw [e1] at nd
    have q := up ⟨c.Z, upd c.H p (.lst vs'), c.F⟩ (.own ds') (some (.ref p)) [p] (Same.refl _) (fun a m => upd_ne (show a ≠ p by
      rintro rfl
      simp only [List.nodup_append, List.nodup_cons, List.mem_append, List.mem_cons] at nd m
      grind)) ⟨p, vs', rfl, rfl, upd_same, r⟩
    rw [list_set_self e2] at q
    show HoldsL K ⟨c.Z, upd c.H p (.lst vs'), c.F⟩ (S.set i (.own ds')) σ c.F
    have e1' := e1
    generalize c.F = FF at e1' q ⊢
    rw [e1']
    rw [e1'] at q
    exact q
  · have nb : b ≠ p := by
      rintro rfl
      have q' : c.Z b = some o := q
      rw [h.zf b pF] at q'
      cases q'
    exact (upd_ne nb).trans (h.zh b o q)
theorem Holds.mutD {K : PySem.W.Frag} {S : List Slot} {σ : Sg} {c : Cfg} {i : Nat} {t : Bool} {es : List (D × D)} (h : Holds K S σ c) (e : S[i]? = some (.dic t es)) :
    ∃ p, σ[i]? = some (some (V.ref p)) ∧ DicAt K c.Z (c.H p) t es ∧ ∀ es' u, DicAt K c.Z (some u) t es' →
      Stp c ⟨c.Z, upd c.H p u, c.F⟩ ∧ Holds K (S.set i (.dic t es')) σ ⟨c.Z, upd c.H p u, c.F⟩ := by
  obtain ⟨A, Fi, B, x, e1, e2, ⟨p, e3, e4, e5⟩, up⟩ := h.l.at e
  subst e3 e4
  have pF : p ∈ c.F := by rw [e1]; simp
  refine ⟨p, e2, e5, fun es' u r => ⟨⟨Same.refl _, fun b o q hn => (upd_ne (show b ≠ p from fun z => hn (z ▸ pF))).trans q, fun b o q => ?_, fun b o q => .inl q, fun b m => .inl m⟩, ⟨?_, h.nd, h.zf, fun b o q => ?_⟩⟩⟩
  · by_cases hb : b = p
    · subst hb
      exact ⟨_, upd_same⟩
    · exact ⟨o, (upd_ne hb).trans q⟩
  · have nd := h.nd
    rw [e1] at nd
    have q := up ⟨c.Z, upd c.H p u, c.F⟩ (.dic t es') (some (.ref p)) [p] (Same.refl _) (fun a m => upd_ne (show a ≠ p by
      rintro rfl
      simp only [List.nodup_append, List.nodup_cons, List.mem_append, List.mem_cons] at nd m
      grind)) ⟨p, rfl, rfl, by
        show DicAt K c.Z (upd c.H p u p) t es'
        rw [upd_same]
        exact r⟩
    rw [list_set_self e2] at q
    show HoldsL K ⟨c.Z, upd c.H p u, c.F⟩ (S.set i (.dic t es')) σ c.F
    have e1' := e1
    generalize c.F = FF at e1' q ⊢
    rw [e1']
    rw [e1'] at q
    exact q
  · have nb : b ≠ p := by
      rintro rfl
      have q' : c.Z b = some o := q
      rw [h.zf b pF] at q'
      cases q'
    exact (upd_ne nb).trans (h.zh b o q)
/-- a method that changes the list: what it hands back and what the list is then -/
def MtD (X : Cx) (id : String) (g : List D → List D → Option (D × List D)) : Prop := ∃ r, MtR X id r ∧
  ∀ (p : Addr) (vs us : List V) (ds as : List D) (d : D) (ds' : List D) (K : PySem.W.Frag) (c : Cfg) (Q : VK), g ds as = some (d, ds') → c.H p = some (.lst vs) → RpA K c.Z vs ds → RpA K c.Z us as →
    (∀ v vs', Rp K c.Z v d → RpA K c.Z vs' ds' → Q v (upd c.H p (.lst vs'))) → r (.ref p) us c.H Q
def eMut (i : Nat) (g : List D → List D → Option (D × List D)) (fa : EM (List D)) : EM D := fun S0 => match S0[i]? with
  | some (.own _) => eBind fa (fun as S => match S[i]? with
    | some (.own ds) => (match g ds as with
      | some (d, ds') => .ok d (S.set i (.own ds'))
      | none => .bad)
    | _ => .bad) S0
  | _ => .bad
variable {x : Str} {p apos : Pos} {name : Str} {id : String} {g : List D → List D → Option (D × List D)} {fa : EM (List D)} {e : Expr} {es : List Expr}
theorem mut_rd {r : V → List V → Hp → VK → Prop} {i : Nat} (hr : ∀ (p : Addr) (vs us : List V) (ds as : List D) (d : D) (ds' : List D) (K : PySem.W.Frag) (c : Cfg) (Q : VK), g ds as = some (d, ds') → c.H p = some (.lst vs) → RpA K c.Z vs ds → RpA K c.Z us as →
    (∀ v vs', Rp K c.Z v d → RpA K c.Z vs' ds' → Q v (upd c.H p (.lst vs'))) → r (.ref p) us c.H Q) (σ : Sg) (H : Hp) (Q : VK) (q : tD (gx X W) (eMut i g fa) σ H Q) :
    tBM X.K "list" r (tVar i) (tDs (gx X W) fa) σ H Q := by
  obtain ⟨S, Z, F, h, q⟩ := q
  unfold eMut at q
  split at q
  · rename_i ds0 e0
    obtain ⟨p0, vs0, e2, e3, _⟩ := h.mutO e0
    refine ⟨.ref p0, e2, .inl ⟨rfl, _, SqL.of e3⟩, S, Z, F, h, (Go.bind q).mono fun as S1 c1 s1 h1 q1 us ru => ?_⟩
    split at q1
    · rename_i ds e1
      obtain ⟨p1, vs1, e4, e5, r1, back⟩ := h1.mutO e1
      rw [e2] at e4
      cases e4
      cases eg : g ds as with
      | none => simp only [eg] at q1; exact q1.elim
      | some dd =>
        obtain ⟨d, ds'⟩ := dd
        simp only [eg] at q1
        refine hr p0 vs1 us ds as d ds' X.K c1 Q eg e5 r1 ru fun v vs' rv rs => ?_
        obtain ⟨st, hh⟩ := back ds' vs' rs
        exact q1 _ st hh v rv
    · exact q1.elim
  · exact q.elim
theorem de_mut (i : Nat) (hm : MtD X id g) (slot : PySem.Slot "list" name id) (hty : typeOf (.builtin id) = pure (.type "method_descriptor")) (ha : DA X W (e :: es) fa)
    (hN : X.N[i]? = some x := by rfl) (hv : Vis X.env.scope x := by first | exact Or.inl rfl | exact Or.inr (Or.inl rfl) | exact Or.inr (Or.inr rfl)) (hd : (x == ("__debug__" : Str)) = false := by decide) (hcd : (x == ("__classdict__" : Str)) = false := by decide)
    (hbase : attributeBase (.Name x p) name X.env (eval (.Name x p) X.env) = eval (.Name x p) X.env := by rfl)
    (hfew : ((backTo pos (starEach (e :: es) X.env)).all (fun x => !x.1) && (backToKw pos (keywordEach [] X.env)).all (fun x => x.1.isSome)
      && decide ((e :: es).length + ([] : List Keyword).length + (if ([] : List Keyword).isEmpty then 0 else 1) < 30)) = true := by rfl)
    (hline : (apos.endLine == pos.line) = true := by rfl) (hs : starEach (e :: es) X.env = (false, eval e X.env) :: starEach es X.env := by rfl) (hplain : (backTo pos (starEach es X.env)).any (·.1) = false := by rfl) :
    DE X W (.Call (.Attribute (.Name x p) name apos) (e :: es) [] pos) (eMut i g fa) := by
  obtain ⟨r, hm, hr⟩ := hm
  exact PE.wk (pe_bm PySem.F.plainAttrs_list slot hty hm (pe_var hN hv hd hcd) ha (hbase := hbase) (hfew := hfew) (hline := hline) (hs := hs) (hplain := hplain)) (mut_rd hr)
theorem de_mut0 (i : Nat) (hm : MtD X id g) (slot : PySem.Slot "list" name id) (hty : typeOf (.builtin id) = pure (.type "method_descriptor"))
    (hN : X.N[i]? = some x := by rfl) (hv : Vis X.env.scope x := by first | exact Or.inl rfl | exact Or.inr (Or.inl rfl) | exact Or.inr (Or.inr rfl)) (hd : (x == ("__debug__" : Str)) = false := by decide) (hcd : (x == ("__classdict__" : Str)) = false := by decide)
    (hbase : attributeBase (.Name x p) name X.env (eval (.Name x p) X.env) = eval (.Name x p) X.env := by rfl) (hline : (apos.endLine == pos.line) = true := by rfl) :
    DE X W (.Call (.Attribute (.Name x p) name apos) [] [] pos) (eMut i g aNil) := by
  obtain ⟨r, hm, hr⟩ := hm
  refine PE.wk (pe_bm0 PySem.F.plainAttrs_list slot hty hm (pe_var hN hv hd hcd) (hbase := hbase) (hline := hline)) fun σ H Q q => ?_
  obtain ⟨v, e2, ty, q2⟩ := mut_rd hr σ H Q q
  obtain ⟨S, Z, F, h, q3⟩ := q2
  exact ⟨v, e2, ty, q3 _ (Stp.refl _) h [] .nil⟩
def appD : List D → List D → Option (D × List D) := fun ds as => match as with
  | [a] => if ds.length < sizeLine then some (.none, ds ++ [a]) else none
  | _ => none
theorem md_append : MtD X "list.append" appD := by
  refine ⟨_, mt_append, fun p vs us ds as d ds' K c Q e hp rv ru q => ?_⟩
  unfold appD at e
  split at e
  · split at e
    · rename_i hl
      cases e
      obtain ⟨v, rfl, r⟩ := ru.one
      exact ⟨p, vs, v, rfl, rfl, hp, by rw [rv.length]; exact hl, q _ _ .non (rv.append (.cons r .nil))⟩
    · cases e
  · cases e
def popD : List D → List D → Option (D × List D) := fun ds as => match as with
  | [] => (ds[ds.length - 1]?).map fun d => (d, ds.dropLast)
  | _ => none
theorem RpA.dropLast {K : PySem.W.Frag} {Z : Hp} {vs : List V} {ds : List D} (h : RpA K Z vs ds) : RpA K Z vs.dropLast ds.dropLast := by
  rw [List.dropLast_eq_take, List.dropLast_eq_take, h.length]
  exact h.take _
theorem md_pop : MtD X "list.pop" popD := by
  refine ⟨_, mt_pop, fun p vs us ds as d ds' K c Q e hp rv ru q => ?_⟩
  unfold popD at e
  split at e
  · obtain ⟨d', e1, e2⟩ := Option.map_eq_some_iff.mp e
    cases e2
    cases ru
    obtain ⟨v, e3, r⟩ := rv.get e1
    exact ⟨p, vs, v, rfl, rfl, hp, by rw [rv.length]; exact e3, q _ _ r rv.dropLast⟩
  · cases e
def popAtD : List D → List D → Option (D × List D) := fun ds as => match as with
  | [.int i] => if -(2 ^ 63) ≤ i ∧ i < 2 ^ 63 then (seqIndex? i ds.length).bind fun k => (ds[k]?).map fun d => (d, ds.eraseIdx k) else none
  | _ => none
theorem md_popAt : MtD X "list.pop" popAtD := by
  refine ⟨_, mt_popAt, fun p vs us ds as d ds' K c Q e hp rv ru q => ?_⟩
  unfold popAtD at e
  split at e
  · split at e
    · rename_i hi
      obtain ⟨k, e1, e2⟩ := Option.bind_eq_some_iff.mp e
      obtain ⟨d', e3, e4⟩ := Option.map_eq_some_iff.mp e2
      cases e4
      cases ru.i1
      obtain ⟨v, e5, r⟩ := rv.get e3
      exact ⟨p, vs, _, k, v, rfl, rfl, hp, hi.1, hi.2, by rw [rv.length]; exact e1, e5, q _ _ r (rv.eraseIdx k)⟩
    · cases e
  · cases e
/-- xs.extend(ys): ys a list that stays -/
def extD : List D → List D → Option (D × List D) := fun ds as => match as with
  | [.list es] => if ds.length + es.length ≤ sizeLine then some (.none, ds ++ es) else none
  | _ => none
theorem de_ext (i : Nat) (ha : DA X W [e] fa)
    (hN : X.N[i]? = some x := by rfl) (hv : Vis X.env.scope x := by first | exact Or.inl rfl | exact Or.inr (Or.inl rfl) | exact Or.inr (Or.inr rfl)) (hd : (x == ("__debug__" : Str)) = false := by decide) (hcd : (x == ("__classdict__" : Str)) = false := by decide)
    (hbase : attributeBase (.Name x p) "extend" X.env (eval (.Name x p) X.env) = eval (.Name x p) X.env := by rfl)
    (hfew : ((backTo pos (starEach [e] X.env)).all (fun x => !x.1) && (backToKw pos (keywordEach [] X.env)).all (fun x => x.1.isSome)
      && decide ([e].length + ([] : List Keyword).length + (if ([] : List Keyword).isEmpty then 0 else 1) < 30)) = true := by rfl)
    (hline : (apos.endLine == pos.line) = true := by rfl) (hs : starEach [e] X.env = (false, eval e X.env) :: starEach [] X.env := by rfl) (hplain : (backTo pos (starEach [] X.env)).any (·.1) = false := by rfl) :
    DE X W (.Call (.Attribute (.Name x p) "extend" apos) [e] [] pos) (eMut i extD fa) := by
  refine PE.wk (pe_bm PySem.F.plainAttrs_list PySem.F.slot_list_extend PySem.F.type_list_extend mt_extend (pe_var hN hv hd hcd) ha (hbase := hbase) (hfew := hfew) (hline := hline) (hs := hs) (hplain := hplain)) fun σ H Q q => ?_
  obtain ⟨S, Z, F, h, q⟩ := q
  unfold eMut at q
  split at q
  · rename_i ds0 e0
    obtain ⟨p0, vs0, e2, e3, _⟩ := h.mutO e0
    refine ⟨.ref p0, e2, .inl ⟨rfl, _, SqL.of e3⟩, S, Z, F, h, (Go.bind q).mono fun as S1 c1 s1 h1 q1 us ru => ?_⟩
    split at q1
    · rename_i ds e1
      obtain ⟨p1, vs1, e4, e5, r1, back⟩ := h1.mutO e1
      rw [e2] at e4
      cases e4
      cases eg : extD ds as with
      | none => simp only [eg] at q1; exact q1.elim
      | some dd =>
        obtain ⟨d, ds'⟩ := dd
        simp only [eg] at q1
        unfold extD at eg
        split at eg
        · split at eg
          · rename_i hl
            cases eg
            obtain ⟨v, rfl, r⟩ := ru.one
            obtain ⟨b, zs, rfl, a1, r2⟩ := r.lstI
            obtain ⟨st, hh⟩ := back _ (vs1 ++ zs) (r1.append r2)
            exact ⟨p0, b, vs1, zs, rfl, rfl, e5, h1.zh _ _ a1, by rw [r1.length, r2.length]; exact hl, q1 _ st hh _ .non⟩
          · cases eg
        · cases eg
    · exact q1.elim
  · exact q.elim
/-- xs[i] = e -/
def setAtD (s : Slot) (k d : D) : Option Slot := match s with
  | .own ds => (match k with
    | .int n => (ixN ds.length n).map fun j => .own (ds.set j d)
    | _ => none)
  | .dic t es => if isKey t k && decide (es.length < sizeLine) then some (.dic t (esPut es k d)) else none
  | _ => none
def sSetIx (i : Nat) (fe fk : EM D) : SM := sOf fe fun d S0 => match slotAt S0 i with
  | some _ => sOf fk (fun k S => match (S[i]?).bind fun s => setAtD s k d with
    | some s' => .nx (S.set i s')
    | none => .bad) S0
  | none => .bad
theorem PSet.or {t t' : TSet} (h : PSet X t) (h' : PSet X t') : PSet X (fun o i v H Q => t o i v H Q ∨ t' o i v H Q) := by
  intro pins s σ H o i v ov iv u Q I ro ri rv q
  rcases q with q | q
  · exact h pins s σ H o i v ov iv u Q I ro ri rv q
  · exact h' pins s σ H o i v ov iv u Q I ro ri rv q
theorem setAt_rd {S : List Slot} {σ : Sg} {c : Cfg} {K : PySem.W.Frag} {i : Nat} {k d : D} {s' : Slot} {p0 : Addr} {y z : V} {Q : Hp → Prop} (h : Holds K S σ c) (e2 : σ[i]? = some (some (V.ref p0))) (e : ((S[i]?).bind fun s => setAtD s k d) = some s') (ry : Rp K c.Z y d) (rz : Rp K c.Z z k)
    (q : ∀ c', Stp c c' → Holds K (S.set i s') σ c' → Q c'.H) : rSetL (.ref p0) z y c.H Q ∨ rSetD (.ref p0) z y c.H Q := by
  obtain ⟨s, e1, e3⟩ := Option.bind_eq_some_iff.mp e
  unfold setAtD at e3
  split at e3
  · rename_i ds
    split at e3
    · rename_i n
      obtain ⟨j, e4, e5⟩ := Option.map_eq_some_iff.mp e3
      subst e5
      obtain ⟨p1, vs1, e6, e7, r1, back⟩ := h.mutO e1
      rw [e2] at e6
      cases e6
      cases rz
      obtain ⟨st, hh⟩ := back _ (vs1.set j y) (r1.set j ry)
      exact .inl ⟨p0, vs1, n, j, rfl, rfl, e7, by rw [r1.length]; exact e4, q _ st hh⟩
    · cases e3
  · rename_i t es
    split at e3
    · rename_i hk
      rw [Bool.and_eq_true] at hk
      cases e3
      obtain ⟨p1, e6, da, back⟩ := h.mutD e1
      rw [e2] at e6
      cases e6
      obtain ⟨u, g, da'⟩ := DicAt.put h.zh da hk.1 rz ry (of_decide_eq_true hk.2)
      obtain ⟨st, hh⟩ := back _ u da'
      exact .inr ⟨p0, _, rfl, g, q _ st hh⟩
    · cases e3
  · cases e3
theorem ds_setIx (hu : X.A.units + 64 < cLine) (i : Nat) {k v : Expr} {p2 : Pos} {fe fk : EM D} (hv : DE X W v fe) (hk : DE X W k fk)
    (hN : X.N[i]? = some x := by rfl) (hvis : Vis X.env.scope x := by first | exact Or.inl rfl | exact Or.inr (Or.inl rfl) | exact Or.inr (Or.inr rfl)) (hd : (x == ("__debug__" : Str)) = false := by decide) (hcd : (x == ("__classdict__" : Str)) = false := by decide)
    (ha : ∀ v, assign (.Subscript (.Name x p) k p2) X.env v = (do
      let ov ← holding [v] (eval (.Name x p) X.env)
      let iv ← holding [v, ov] (eval k X.env)
      standAt p2
      holding [v, ov, iv] (setItem ov iv v)
      release [v, ov, iv] []) := by intro _; rfl)
    (hs : swapsWithSole [.Subscript (.Name x p) k p2] v pos.line X.env = pure false := by rfl) (hw : swappedStores [.Subscript (.Name x p) k p2] v X.env = pure none := by rfl)
    (h1 : (assignEach [.Subscript (.Name x p) k p2] X.env).map (·.2) = [assign (.Subscript (.Name x p) k p2) X.env] := by rfl) :
    DS X W (.Assign [.Subscript (.Name x p) k p2] v pos) (sSetIx i fe fk) := by
  refine PS.wk (ps_asg hv (pg_sub (pe_var hN hvis hd hcd) hk (PSet.or set_list (set_dict (by omega))) ha) hs hw h1) fun Q σ H q => ?_
  obtain ⟨S, Z, F, h, q⟩ := q
  refine ⟨S, Z, F, h, Go.toS q fun d S1 c1 s1 h1 q1 y ry => ?_⟩
  split at q1
  · rename_i d0 e0
    obtain ⟨p0, e2, _⟩ := h1.loAt e0
    refine ⟨.ref p0, e2, S1, c1.Z, c1.F, h1, Go.toS q1 fun kk S2 c2 s2 h2 q2 z rz => ?_⟩
    split at q2
    · rename_i s' e1
      exact setAt_rd h2 e2 e1 (ry.mono s2.z) rz fun c' st hh => q2 σ c' st hh
    · exact q2.elim
  · exact q1.elim
end
end FW

/-! FwI: what a text's defs lean on, universal walks, isinstance, names of the module. -/
namespace FW
open PySem PySem.Spec L2
open PyProof.Rows hiding St
/-- the built-in names that the module does not hide -/
structure Blt (mg : Str → Option Value) : Prop where
  len : mg "len" = none
  range : mg "range" = none
  sum : mg "sum" = none
  tuple : mg "tuple" = none
  list : mg "list" = none
  int : mg "int" = none
  isinstance : mg "isinstance" = none
  any : mg "any" = none
  all : mg "all" = none
  abs : mg "abs" = none
  min : mg "min" = none
  max : mg "max" = none
  sorted : mg "sorted" = none
  set : mg "set" = none
  dict : mg "dict" = none
  str : mg "str" = none
  bool : mg "bool" = none
  zip : mg "zip" = none
theorem bt_len : bootBuiltins "len" = some (.builtin "len") := by decide +kernel
theorem bt_sum : bootBuiltins "sum" = some (.builtin "sum") := by decide +kernel
theorem bt_any : bootBuiltins "any" = some (.builtin "any") := by decide +kernel
theorem bt_all : bootBuiltins "all" = some (.builtin "all") := by decide +kernel
theorem bt_abs : bootBuiltins "abs" = some (.builtin "abs") := by decide +kernel
theorem bt_min : bootBuiltins "min" = some (.builtin "min") := by decide +kernel
theorem bt_max : bootBuiltins "max" = some (.builtin "max") := by decide +kernel
theorem bt_sorted : bootBuiltins "sorted" = some (.builtin "sorted") := by decide +kernel
theorem bt_isinstance : bootBuiltins "isinstance" = some (.builtin "isinstance") := by decide +kernel
theorem bt_tuple : bootBuiltins "tuple" = some (.type "tuple") := by decide +kernel
theorem bt_list : bootBuiltins "list" = some (.type "list") := by decide +kernel
theorem bt_int : bootBuiltins "int" = some (.type "int") := by decide +kernel
theorem bt_bool : bootBuiltins "bool" = some (.type "bool") := by decide +kernel
theorem bt_str : bootBuiltins "str" = some (.type "str") := by decide +kernel
theorem bt_set : bootBuiltins "set" = some (.type "set") := by decide +kernel
theorem bt_dict : bootBuiltins "dict" = some (.type "dict") := by decide +kernel
/-- a def that may be called by its name -/
def Cal (P : Program) (w : World) (K : PySem.W.Frag) (mg : Str → Option Value) (base : Heap) (CX : CXT) (x : Str) (ps : List Str) (k : Nat) (sp : Sp) : Prop :=
  ∃ f fd, FnOk P w K mg base CX k f fd ps sp ∧ mg x = some (.ref f) ∧ PySem.W.keepIn K (.ref f) = true ∧ L2.Binds K fd ps []
theorem Cal.mk' {P : Program} {w : World} {K : PySem.W.Frag} {mg : Str → Option Value} {base : Heap} {CX : CXT} {x : Str} {ps : List Str} {k : Nat} {sp : Sp} {f : Addr} {fd : FuncData} {qual : Str} {st : Stmt} (F : Fun K x qual st f fd) (o : FnOk P w K mg base CX k f fd ps sp) (g : mg x = some (.ref f)) (b : L2.Binds K fd ps []) : Cal P w K mg base CX x ps k sp :=
  ⟨f, fd, o, g, F.kp, b⟩
section
variable {X : Cx} {W : WX} {pos p : Pos} {x : Str} {e : Expr} {es : List Expr}
theorem de_fn {k m : Nat} {ps : List Str} {g : List D → Rs} {fa : EM (List D)} (C : Cal X.prog X.w X.K X.mg X.base CX0 x ps k (spD0 X.K m g)) (hr : Room k X.A) (ha : DA X W (e :: es) fa) (hg : Gl X x := by rfl) (hdb : (x == ("__debug__" : Str)) = false := by decide)
    (he : starEach (e :: es) X.env = (false, eval e X.env) :: starEach es X.env := by rfl) (hpl : (backTo pos (starEach es X.env)).any (·.1) = false := by rfl) : DE X W (.Call (.Name x p) (e :: es) [] pos) (eCall m g fa) := by
  obtain ⟨f, fd, F, hm, hk, hb⟩ := C
  exact de_call F hr hg hm hk hb ha hdb he hpl
theorem de_fnX {k m : Nat} {ps : List Str} {g : List D → Rs} {fa : EM (List D)} (tk : Takes X W) (C : Cal X.prog X.w X.K X.mg X.base (L2.CX X.prog X.w) x ps k (spDX X.K X.mg m g)) (hr : Room k X.A) (ha : DA X W (e :: es) fa) (hg : Gl X x := by rfl) (hdb : (x == ("__debug__" : Str)) = false := by decide)
    (he : starEach (e :: es) X.env = (false, eval e X.env) :: starEach es X.env := by rfl) (hpl : (backTo pos (starEach es X.env)).any (·.1) = false := by rfl) : DE X W (.Call (.Name x p) (e :: es) [] pos) (eCallX m g fa) := by
  obtain ⟨f, fd, F, hm, hk, hb⟩ := C
  exact de_callX tk F hr hg hm hk hb ha hdb he hpl
theorem de_fnW (i : Nat) {k m : Nat} {ps : List Str} {g : Addr → Int → List Int → List D → Rw} {fa : EM (List D)} {y : Str} {p2 : Pos} (C : Cal X.prog X.w X.K X.mg X.base CX0 x ps k (spW X.K m g)) (hr : Room k X.A) (ha : DA X W es fa) (hg : Gl X x := by rfl)
    (hN : X.N[i]? = some y := by rfl) (hv : Vis X.env.scope y := by first | exact Or.inl rfl | exact Or.inr (Or.inl rfl) | exact Or.inr (Or.inr rfl)) (hd : (y == ("__debug__" : Str)) = false := by decide) (hcd : (y == ("__classdict__" : Str)) = false := by decide)
    (hs : starEach (.Name y p2 :: es) X.env = (false, eval (.Name y p2) X.env) :: starEach es X.env := by rfl) (hdb : (x == ("__debug__" : Str)) = false := by decide) (hpl : (backTo pos (starEach es X.env)).any (·.1) = false := by rfl) :
    DE X W (.Call (.Name x p) (.Name y p2 :: es) [] pos) (eCallW i m g fa) := by
  obtain ⟨f, fd, F, hm, hk, hb⟩ := C
  exact de_callW i F hr hg hm hk hb ha hN hv hd hcd hs hdb hpl
/-- a number of the module's top -/
theorem de_gint {n : Int} (h : ∃ t, X.mg x = some (.int n t)) (hg : Gl X x := by rfl) (hd : (x == ("__debug__" : Str)) = false := by decide) : DE X W (.Name x pos) (eC (.int n)) := by
  obtain ⟨t, h⟩ := h
  exact de_c (pe_glob (v := .int n) hg h ⟨t, rfl⟩ hd) fun _ => .int n
/-- a tuple of the module's top, to the right of a comparison -/
def OpDK (X : Cx) (W : WX) (f : Value → Value → Sem Value) (g : D → D → Option D) : Prop := ∃ r : R2, OpR X f r ∧
  ∀ (x y : V) (a b d : D) (S : List Slot) (σ : Sg) (c : Cfg) (Q : VK), g a b = some d → Holds X.K S σ c → Lo X.K c x a → Dp X.K c.H y b → noDict b = true →
    (∀ c' v, Stp c c' → Holds X.K S σ c' → Rp X.K c'.Z v d → Q v c'.H) → r x y c.H Q
theorem ok_in (hu : X.A.units + 64 < cLine) : OpDK X W (compareOp .In) inD := by
  refine ⟨_, op_inP, fun x y a b d S σ c Q e hh ra rb nb q => ?_⟩
  unfold inD at e
  split at e
  · simp [noDict] at nb
  obtain ⟨ds, e1, e2⟩ := Option.bind_eq_some_iff.mp e
  split at e2
  · rename_i hs
    obtain ⟨n1, n2, hs⟩ := inOk_get hs
    cases e2
    refine ⟨a, ds, ra.dp hh.zh n1, ?_, noDict_plain a n1, noDictA_plain ds n2, shal_in hs hu, q c _ (Stp.refl _) hh (.bl _)⟩
    unfold itemsD at e1
    split at e1
    · cases e1; exact .inl rb
    · cases e1; exact .inr rb
    · cases e1
  · cases e2
theorem ok_nin (hu : X.A.units + 64 < cLine) : OpDK X W (compareOp .NotIn) ninD := by
  refine ⟨_, op_notInP, fun x y a b d S σ c Q e hh ra rb nb q => ?_⟩
  unfold ninD at e
  split at e
  · simp [noDict] at nb
  obtain ⟨ds, e1, e2⟩ := Option.bind_eq_some_iff.mp e
  split at e2
  · rename_i hs
    obtain ⟨n1, n2, hs⟩ := inOk_get hs
    cases e2
    refine ⟨a, ds, ra.dp hh.zh n1, ?_, noDict_plain a n1, noDictA_plain ds n2, shal_in hs hu, q c _ (Stp.refl _) hh (.bl _)⟩
    unfold itemsD at e1
    split at e1
    · cases e1; exact .inl rb
    · cases e1; exact .inr rb
    · cases e1
  · cases e2
theorem de_cmpK {op : CmpOp} {g : D → D → Option D} {ea : Expr} {fa : EM D} {px : Pos} {b : D} (ho : OpDK X W (compareOp op) g) (ha : DE X W ea fa) (h : ∃ a, X.mg x = some (.ref a) ∧ ∀ Z, Dp X.K Z (.ref a) b) (nb : noDict b = true)
    (hm : behindInMarks op (.Name x px) = false := by rfl) (hg : Gl X x := by rfl) (hd : (x == ("__debug__" : Str)) = false := by decide) : DE X W (.Compare ea [op] [.Name x px] pos) (eBin g fa (eC b)) := by
  obtain ⟨r, ho, hr⟩ := ho
  obtain ⟨p, h1, h2⟩ := h
  refine PE.wk (pe_cmpR ho ha (pe_glob (v := .ref p) hg h1 rfl hd) hm) fun σ H Q q => ?_
  obtain ⟨S, Z, F, hh, q⟩ := q
  refine ⟨S, Z, F, hh, (Go.bind q).mono fun a S1 c1 s1 h1' q1 v rv => ?_⟩
  obtain ⟨d, e, k⟩ := Go.opt (show Go _ σ c1 (eOpt (g a b) S1) _ from q1)
  exact hr v _ a b d S1 σ c1 Q e h1' (.z rv) (h2 _) nb fun c' v st h' rv => k c' st h' v rv
theorem dt_cmpK {op : CmpOp} {g : D → D → Option D} {ea : Expr} {fa : EM D} {px : Pos} {b : D} (ho : OpDK X W (compareOp op) g) (ha : DE X W ea fa) (h : ∃ a, X.mg x = some (.ref a) ∧ ∀ Z, Dp X.K Z (.ref a) b) (nb : noDict b = true)
    (hm : behindInMarks op (.Name x px) = false := by rfl) (hg : Gl X x := by rfl) (hd : (x == ("__debug__" : Str)) = false := by decide) : DT X W (.Compare ea [op] [.Name x px] pos) (bOf (eBin g fa (eC b))) := by
  obtain ⟨r, ho, hr⟩ := ho
  obtain ⟨p, h1, h2⟩ := h
  refine PT.wk (pt_cmpR ho ha (pe_glob (v := .ref p) hg h1 rfl hd) hm) fun σ H Q q => ?_
  obtain ⟨S, Z, F, hh, q⟩ := bof_rd σ H Q q
  refine ⟨S, Z, F, hh, (Go.bind q).mono fun a S1 c1 s1 h1' q1 v rv => ?_⟩
  obtain ⟨d, e, k⟩ := Go.opt (show Go _ σ c1 (eOpt (g a b) S1) _ from q1)
  exact hr v _ a b d S1 σ c1 _ e h1' (.z rv) (h2 _) nb fun c' v st h' rv => k c' st h' v rv
/-! ### what is walked, whatever it is -/
def signs (z : Str) : List D := z.cps.toList.map fun c => PyData.str ⟨#[c]⟩
def walkD : D → Option (List D)
  | .list ds => some ds
  | .tuple ds => some ds
  | _ => none
def iS (f : EM D) : EM (List D) := eBind f fun d => eOpt (walkD d)
theorem di_seq {tg : Expr} {f : EM D} (he : DE X W e f) : DI X W tg e (iS f) := by
  refine ⟨fun pins s σ H R I q => ?_⟩
  obtain ⟨S, Z, F, h, q⟩ := q
  unfold iS eBind at q
  cases ef : f S with
  | bad => rw [ef] at q; exact q.elim
  | ex y S' => 
    rw [ef] at q
    refine (di_list he).run pins s σ H R I ⟨S, Z, F, h, ?_⟩
    unfold iL eBind
    rw [ef]
    exact q
  | ok d S' =>
    rw [ef] at q
    cases d with
    | list ds =>
      refine (di_list he).run pins s σ H R I ⟨S, Z, F, h, ?_⟩
      unfold iL eBind
      rw [ef]
      exact q
    | tuple ds =>
      refine (di_tup he).run pins s σ H R I ⟨S, Z, F, h, ?_⟩
      unfold iT eBind
      rw [ef]
      exact q
    | _ => exact q.elim
/-- range of three -/
def rng3 : List D → Option (List D)
  | [.int i, .int j, .int k] => if k ≠ 0 ∧ k.natAbs < 1073741824 ∧ Builtin.Range.small i j k = true ∧ 0 ≤ Builtin.Range.rangeSize i j k then some (intsC i k (Builtin.Range.rangeSize i j k).toNat) else none
  | _ => none
def iR3 (f : EM (List D)) : EM (List D) := eBind f fun ds => eOpt (rng3 ds)
theorem di_range3 {tg a b c : Expr} {f : EM (List D)} (hm : X.mg "range" = none) (ha : DA X W [a, b, c] f) (hg : Gl X "range" := by rfl)
    (hs : starEach [a, b, c] X.env = (false, eval a X.env) :: starEach [b, c] X.env := by rfl) (hpl : (backTo pos (starEach [b, c] X.env)).any (·.1) = false := by rfl) : DI X W tg (.Call (.Name "range" p) [a, b, c] [] pos) (iR3 f) := by
  refine PI.wk (pi_range3 hg hm ha hs hpl) fun σ H R q => ?_
  obtain ⟨S, Z, F, h, q⟩ := q
  refine ⟨S, Z, F, h, (Go.bind q).mono fun ds S1 c1 s1 h1 q1 vs rs => ?_⟩
  obtain ⟨es, e, k⟩ := Go.opt q1
  unfold rng3 at e
  split at e
  · split at e
    · rename_i i j k' hc
      cases e
      exact ⟨i, j, k', (Builtin.Range.rangeSize i j k').toNat, rs.i3, ⟨hc.1, hc.2.1, hc.2.2.1, (Int.toNat_of_nonneg hc.2.2.2).symm⟩, k c1 (Stp.refl _) h1 _ (ItOk.rngC _ _ i k' _)⟩
    · cases e
  · cases e
/-! ### isinstance -/
def tyName : D → String
  | .none => "NoneType"
  | .bool _ => "bool"
  | .int _ => "int"
  | .str _ => "str"
  | .list _ => "list"
  | .tuple _ => "tuple"
  | .dict _ => "dict"
def notDict : D → Bool
  | .dict _ => false
  | _ => true
def isiD (T : String) (d : D) : Option D := if notDict d then (kitB (tyName d) T).map PyData.bool else none
theorem Rp.ty {K : PySem.W.Frag} {Z H : Hp} (sm : Same Z H) {v : V} {d : D} (h : Rp K Z v d) (n : notDict d = true) : TyX K H v (.type (tyName d)) := by
  cases h with
  | non => exact .base .non
  | bl b => exact .base (.bl b)
  | int i => exact .base (.int i)
  | str x => exact .base (.str x)
  | lst h1 h2 => exact .base (.lst (sm _ _ h1))
  | tup h1 h2 => exact .base (.tup (sm _ _ h1))
  | dk => cases n
  | dt => cases n
  | ob => cases n
theorem de_isi {T : String} {y : Str} {p2 : Pos} {f : EM D} (he : DE X W e f) (hb : X.mg "isinstance" = none) (hT : X.mg y = none) (bt : bootBuiltins y = some (.type T)) (hg : Gl X "isinstance" := by rfl) (hgT : Gl X y := by rfl)
    (hn : y ≠ "__name__" := by decide) (hd : (y == ("__debug__" : Str)) = false := by decide) (hs1 : starEach [.Name y p2] X.env = (false, eval (.Name y p2) X.env) :: starEach [] X.env := by rfl)
    (hs : starEach [e, .Name y p2] X.env = (false, eval e X.env) :: starEach [.Name y p2] X.env := by rfl) (hpl : (backTo pos (starEach [.Name y p2] X.env)).any (·.1) = false := by rfl) :
    DE X W (.Call (.Name "isinstance" p) [e, .Name y p2] [] pos) (eUn (isiD T) f) := by
  refine PE.wk (pe_callB call_isi hg hb bt_isinstance (pa_cons he (pa_cons (pe_bltn (v := .ty T) hgT hT bt rfl hn hd) pa_nil hs1) hs) (he := hs) (hpl := hpl)) fun σ H Q q => ?_
  obtain ⟨S, Z, F, h, q⟩ := q
  refine ⟨S, Z, F, h, (Go.bind q).mono fun a S1 c1 s1 h1 q1 v rv => ?_⟩
  obtain ⟨d, e, k⟩ := Go.opt q1
  unfold isiD at e
  split at e
  rotate_left
  · cases e
  rename_i nd
  obtain ⟨b, e1, e2⟩ := Option.map_eq_some_iff.mp e
  subst e2
  exact ⟨v, .ty T, _, .type T, b, rfl, .ty T, rv.ty h1.zh nd, kit_ty e1, k c1 (Stp.refl _) h1 _ (.bl b)⟩
end
end FW

set_option maxHeartbeats 4000000
/-! FwJ: products of numbers and sequences, ranges as lists. -/
namespace FW
open PySem PySem.Spec L2
open PyProof.Rows hiding St
theorem tmul_same (l : Addr) (items : Array Value) (n : Nat) (dd : Option Addr) (sl : Array (Option Value)) (x : Int) (u : Tok) (a0 : (decide (x < -(2 ^ 63)) || decide (x ≥ 2 ^ 63)) = false) (a1 : (items.isEmpty || x == 1) = true) :
    Meets (Builtin.«tuple.__mul__» ⟨[.ref l, .int x u], []⟩) (fun _ R s => s.heap.get? l = some { cls := .type "tuple", dict := dd, data := .seq items n, slots := sl } ∧ R (.ok (.ret (Value.ref l))) s) :=
  .of_wp fun prog w A R s h => by
    obtain ⟨hp, g, d, tk, os⟩ := s
    obtain ⟨hl, h⟩ := h
    have f1 := AutoSeq1.idx_int
    wp_walk using wpAny_loadPart' hl
    refine wpAny_ite_false (decide_eq_false (by rw [a0]; exact Bool.false_ne_true)) ?_
    wp_walk using wpAny_loadPart' hl
    exact ⟨_, rfl, h⟩
theorem tmul_none (l : Addr) (items : Array Value) (n : Nat) (dd : Option Addr) (sl : Array (Option Value)) (x : Int) (u : Tok) (a0 : (decide (x < -(2 ^ 63)) || decide (x ≥ 2 ^ 63)) = false) (a1 : (items.isEmpty || x == 1) = false) (a2 : (decide (x ≤ 0) || items.isEmpty) = true) :
    Meets (Builtin.«tuple.__mul__» ⟨[.ref l, .int x u], []⟩) (fun _ R s => s.heap.get? l = some { cls := .type "tuple", dict := dd, data := .seq items n, slots := sl } ∧
      R (.ok (.ret (Value.ref s.heap.objs.size))) { s with heap := s.heap.push { cls := Value.type "tuple", data := Data.seq #[] }, toks := s.toks }) :=
  .of_wp fun prog w A R s h => by
    obtain ⟨hp, g, d, tk, os⟩ := s
    obtain ⟨hl, h⟩ := h
    have f1 := AutoSeq1.idx_int
    wp_walk using wpAny_loadPart' hl
    refine wpAny_ite_false (decide_eq_false (by rw [a0]; exact Bool.false_ne_true)) ?_
    wp_walk using wpAny_loadPart' hl
    exact ⟨_, rfl, h⟩
section
variable {X : Cx} {W : WX} {pos p : Pos}
/-- tuple * number, any number within the machine's line -/
def rRepA (K : PySem.W.Frag) : R2 := fun x y H Q => ∃ l k xs, x = .ref l ∧ y = .int k ∧ SqT K H l xs ∧ -1000 ≤ k ∧ k ≤ 1000 ∧ xs.length ≤ 1000 ∧
  (xs = [] ∨ k = 1 → Q (.ref l) H) ∧ (¬ (xs = [] ∨ k = 1) → ∀ p, H p = none → Q (.ref p) (upd H p (.tup (List.replicate k.toNat xs).flatten)))
theorem op_repA : OpR X (binaryOp .Mult) (rRepA X.K) := by
  intro pins s σ H x y v u Q I rx ry h
  obtain ⟨l, k, xs, rfl, rfl, hT, h1, h2, hz, q1, q2⟩ := h
  by_cases hbig : xs ≠ [] ∧ 2 ≤ k
  · exact op_repT pins s σ H _ _ v u Q I rx ry ⟨l, k, xs, rfl, rfl, hT, hbig.1, hbig.2, h2, hz, q2 (by rintro (z | z); exact hbig.1 z; omega)⟩
  · cases rx
    obtain ⟨t, rfl⟩ := ry
    obtain ⟨its, r, ⟨⟨cls, dd, data, sl⟩, ho, hc, n, hd⟩, hs⟩ := I.tuple hT
    simp only at hc hd
    subst hc hd
    have hle := r.length
    have b0 : (decide (k < -(2 ^ 63)) || decide (k ≥ 2 ^ 63)) = false := by
      rw [decide_eq_false (by omega), decide_eq_false (by omega)] <;> rfl
    have hem : its.toArray.isEmpty = decide (xs = []) := by
      cases its with
      | nil => cases r; rfl
      | cons a b => cases r; rfl
    by_cases hw : xs = [] ∨ k = 1
    · have b1 : (its.toArray.isEmpty || k == 1) = true := by
        rw [hem]
        rcases hw with z | z
        · rw [decide_eq_true z]; rfl
        · rw [z]; simp
      refine wpAny_binaryOp_repeat_ref (T := "tuple") (U := "int") (by decide) ⟨_, ho, rfl⟩ (fun s' => typeIs_int s' k t) noFill_tuple_mul F.fills_int_mul F.slot_int_rmul repeat_tuple F.slot_int_index.lookup
        (call_meets F.slot_int_rmul (typeIs_int s k t) F.entry_int_rmul (F.args_int_rmul_2 _ _) (int_rmul_tuple k t l its.toArray n dd sl)
          ⟨ho, rfl, ⟨_, ho, rfl⟩, call_meets F.slot_tuple_mul ⟨_, ho, rfl⟩ F.entry_tuple_mul (F.args_tuple_mul_2 _ _) (tmul_same l its.toArray n dd sl k t b0 b1) ⟨ho, ?_⟩⟩)
      exact ⟨.ref l, H, I, rfl, q1 hw⟩
    · have hk : k ≤ 0 := by
        rcases Int.lt_or_le 0 k with z | z
        · exfalso
          refine hbig ⟨fun e => hw (.inl e), ?_⟩
          have : k ≠ 1 := fun e => hw (.inr e)
          omega
        · exact z
      have b1 : (its.toArray.isEmpty || k == 1) = false := by
        rw [hem, decide_eq_false fun e => hw (.inl e), Bool.false_or]
        exact beq_eq_false_iff_ne.mpr (by omega)
      have b2 : (decide (k ≤ 0) || its.toArray.isEmpty) = true := by
        rw [decide_eq_true hk]
        rfl
      refine wpAny_binaryOp_repeat_ref (T := "tuple") (U := "int") (by decide) ⟨_, ho, rfl⟩ (fun s' => typeIs_int s' k t) noFill_tuple_mul F.fills_int_mul F.slot_int_rmul repeat_tuple F.slot_int_index.lookup
        (call_meets F.slot_int_rmul (typeIs_int s k t) F.entry_int_rmul (F.args_int_rmul_2 _ _) (int_rmul_tuple k t l its.toArray n dd sl)
          ⟨ho, rfl, ⟨_, ho, rfl⟩, call_meets F.slot_tuple_mul ⟨_, ho, rfl⟩ F.entry_tuple_mul (F.args_tuple_mul_2 _ _) (tmul_none l its.toArray n dd sl k t b0 b1 b2) ⟨ho, ?_⟩⟩)
      have z := q2 hw s.heap.objs.size (I.hok.fresh (Nat.le_refl _))
      have e0 : k.toNat = 0 := by omega
      rw [e0] at z
      exact ⟨.ref s.heap.objs.size, _, I.laid (t' := s.toks) (o := .tup []) (fun b ob q => Heap.get?_push_of_some _ q) (Nat.le_refl _) ⟨Nat.zero_le _, [], .nil, IsTup.new _ _⟩, rfl, z⟩
def mulD : D → D → Option D
  | .int i, .int j => if (-(2 ^ 64) < i ∧ i < 2 ^ 64) ∨ (-(2 ^ 64) < j ∧ j < 2 ^ 64) then some (.int (i * j)) else none
  | .tuple xs, .int k => if -1000 ≤ k ∧ k ≤ 1000 ∧ xs.length ≤ 1000 then some (.tuple (List.replicate k.toNat xs).flatten) else none
  | .list xs, .int k => if -(2 ^ 63) ≤ k ∧ k < 2 ^ 63 ∧ xs.length * k.toNat ≤ sizeLine then some (.list (List.replicate k.toNat xs).flatten) else none
  | _, _ => none
theorem od_mul : OpD X W (binaryOp .Mult) mulD := by
  refine ⟨_, (op_mul.or op_repA).or op_rep, fun x y a b d S σ c Q e hh ra rb q => ?_⟩
  unfold mulD at e
  split at e
  · split at e
    · rename_i hc
      cases e
      cases ra.intI
      cases rb.intI
      exact .inl (.inl ⟨_, _, rfl, rfl, hc, q c _ (Stp.refl _) hh (.int _)⟩)
    · cases e
  · split at e
    · rename_i hc
      cases e
      cases rb.intI
      have ra' := ra.tupZ
      obtain ⟨p, xs, rfl, s1, r1⟩ := ra.tupI
      refine .inl (.inr ⟨p, _, xs, rfl, rfl, sameT hh.zh s1, hc.1, hc.2.1, by rw [r1.length]; exact hc.2.2, fun hw => ?_, fun hw pn hp => ?_⟩)
      · refine q c _ (Stp.refl _) hh ?_
        rcases hw with z | z
        · have := (r1.nil_iff).mp z
          subst this
          simpa using ra'
        · subst z
          simpa using ra'
      · obtain ⟨st, h2, r⟩ := hh.layT hp (r1.rep _)
        exact q _ _ st h2 r
    · cases e
  · split at e
    · rename_i hc
      cases e
      cases rb.intI
      obtain ⟨p, xs, rfl, s1, r1⟩ := ra.lstI hh.zh
      refine .inr ⟨p, _, xs, rfl, rfl, s1, hc.1, hc.2.1, by rw [r1.length]; exact hc.2.2, fun pn hp => ?_⟩
      obtain ⟨st, h2, r⟩ := hh.layL hp (r1.rep _)
      exact q _ _ st h2 r
    · cases e
  · cases e
/-- a fresh list by an operation: [..] * n -/
def eBinF (g : D → D → Option (List D)) (fa fb : EM D) : EM (List D) := eBind fa fun a => eBind fb fun b => eOpt (g a b)
def repF : D → D → Option (List D)
  | .list xs, .int k => if -(2 ^ 63) ≤ k ∧ k < 2 ^ 63 ∧ xs.length * k.toNat ≤ sizeLine then some (List.replicate k.toNat xs).flatten else none
  | _, _ => none
theorem df_rep {ea eb : Expr} {fa fb : EM D} (ha : DE X W ea fa) (hb : DL X W eb fb) : DF X W (.BinOp ea .Mult eb pos) (eBinF repF fa fb) := by
  refine PE.wk (pe_op op_rep ha hb) fun σ H Q q => ?_
  obtain ⟨S, Z, F, h, q⟩ := q
  refine ⟨S, Z, F, h, (Go.bind q).mono fun a S1 c1 s1 h1 q1 x rx => ?_⟩
  refine ⟨S1, c1.Z, c1.F, h1, (Go.bind q1).mono fun b S2 c2 s2 h2 q2 y ry => ?_⟩
  obtain ⟨d, e, k⟩ := Go.opt q2
  unfold repF at e
  split at e
  · split at e
    · rename_i hc
      cases e
      cases ry.intI
      obtain ⟨p, xs, rfl, a1, r1⟩ := (rx.mono s2.z).lstI
      exact ⟨p, _, xs, rfl, rfl, h2.zh _ _ a1, hc.1, hc.2.1, by rw [r1.length]; exact hc.2.2, fun pn hp => k c2 (Stp.refl _) h2 pn _ hp (r1.rep _)⟩
    · cases e
  · cases e
/-- list(range(..)) -/
def tRgD (G : Gx) (f : EM (Int × Int)) : Sg → Hp → (Int → Int → Hp → Prop) → Prop := fun σ H Q => ∃ S Z F, Holds G.K S σ ⟨Z, H, F⟩ ∧ Go G σ ⟨Z, H, F⟩ (f S) (fun ij _ c' => Q ij.1 ij.2 c'.H)
def rgOk (a b : Int) : Bool := decide (-(2 ^ 62) ≤ a ∧ a < 2 ^ 62 ∧ -(2 ^ 62) ≤ b ∧ b < 2 ^ 62 ∧ (b - a).toNat ≤ 2 ^ 24)
theorem rgOk_ok {a b : Int} (h : rgOk a b = true) : RgOk a b := by
  unfold rgOk at h
  have q : -(2 ^ 62) ≤ a ∧ a < 2 ^ 62 ∧ -(2 ^ 62) ≤ b ∧ b < 2 ^ 62 ∧ (b - a).toNat ≤ 2 ^ 24 := of_decide_eq_true h
  exact q
def lr1 : D → Option (List D)
  | .int j => if rgOk 0 j then some (intsD 0 (j - 0).toNat) else none
  | _ => none
def lr2 : D → D → Option (List D)
  | .int i, .int j => if rgOk i j then some (intsD i (j - i).toNat) else none
  | _, _ => none
theorem rgV_rp (K : PySem.W.Frag) (Z : Hp) (a b : Int) : RpA K Z (rgV a b) (intsD a (b - a).toNat) := by
  have e : intsD a (b - a).toNat = ((List.range (b - a).toNat).map fun i => a + ((i : Nat) : Int)).map PyData.int := by
    unfold intsD
    rw [List.map_map]
    rfl
  have e2 : rgV a b = ((List.range (b - a).toNat).map fun i => a + ((i : Nat) : Int)).map V.int := by
    unfold rgV
    rw [List.map_map]
    rfl
  rw [e, e2]
  exact RpA.ofI _
def eLr1 (f : EM D) : EM (List D) := eBind f fun d => eOpt (lr1 d)
def eLr2 (f g : EM D) : EM (List D) := eBind f fun d => eBind g fun e => eOpt (lr2 d e)
theorem df_lrng1 {a : Expr} {fa : EM D} {p2 pos2 : Pos} (hl : X.mg "list" = none) (hr : X.mg "range" = none) (ha : DE X W a fa) (hc : X.calm = true := by rfl) (hgl : Gl X "list" := by rfl) (hgr : Gl X "range" := by rfl)
    (na : starEach [a] X.env = (false, eval a X.env) :: starEach [] X.env := by rfl) (nb : starEach [.Call (.Name "range" p2) [a] [] pos2] X.env = (false, eval (.Call (.Name "range" p2) [a] [] pos2) X.env) :: starEach [] X.env := by rfl) :
    DF X W (.Call (.Name "list" p) [.Call (.Name "range" p2) [a] [] pos2] [] pos) (eLr1 fa) := by
  refine PE.wk (pe_listRg hc hgl hl (prg_1 hgr hr ha na) nb) fun σ H Q q => ?_
  obtain ⟨S, Z, F, h, q⟩ := q
  refine ⟨S, Z, F, h, (Go.bind q).mono fun d S1 c1 s1 h1 q1 x rx => ?_⟩
  obtain ⟨es, e, k⟩ := Go.opt q1
  unfold lr1 at e
  split at e
  · split at e
    · rename_i hc
      cases e
      cases rx
      exact ⟨_, rfl, rgOk_ok hc, fun pn hp => k c1 (Stp.refl _) h1 pn _ hp (rgV_rp _ _ 0 _)⟩
    · cases e
  · cases e
theorem df_lrng2 {a b : Expr} {fa fb : EM D} {p2 pos2 : Pos} (hl : X.mg "list" = none) (hr : X.mg "range" = none) (ha : DE X W a fa) (hb : DE X W b fb) (hc : X.calm = true := by rfl) (hgl : Gl X "list" := by rfl) (hgr : Gl X "range" := by rfl)
    (na : starEach [a, b] X.env = (false, eval a X.env) :: starEach [b] X.env := by rfl) (na2 : starEach [b] X.env = (false, eval b X.env) :: starEach [] X.env := by rfl) (np : (backTo pos2 (starEach [b] X.env)).any (·.1) = false := by rfl) (nb : starEach [.Call (.Name "range" p2) [a, b] [] pos2] X.env = (false, eval (.Call (.Name "range" p2) [a, b] [] pos2) X.env) :: starEach [] X.env := by rfl) :
    DF X W (.Call (.Name "list" p) [.Call (.Name "range" p2) [a, b] [] pos2] [] pos) (eLr2 fa fb) := by
  refine PE.wk (pe_listRg hc hgl hl (prg_2 hgr hr ha hb na na2 (hp := np)) nb) fun σ H Q q => ?_
  obtain ⟨S, Z, F, h, q⟩ := q
  refine ⟨S, Z, F, h, (Go.bind q).mono fun d S1 c1 s1 h1 q1 x rx => ?_⟩
  refine ⟨S1, c1.Z, c1.F, h1, (Go.bind q1).mono fun d2 S2 c2 s2 h2 q2 y ry => ?_⟩
  obtain ⟨es, e, k⟩ := Go.opt q2
  unfold lr2 at e
  split at e
  · split at e
    · rename_i hc
      cases e
      cases rx
      cases ry
      exact ⟨_, _, rfl, rfl, rgOk_ok hc, fun pn hp => k c2 (Stp.refl _) h2 pn _ hp (rgV_rp _ _ _ _)⟩
    · cases e
  · cases e
/-! ### x += e, a, b, c = x, y, z -/
def addI : D → D → Option D := intOp fun i j => some (i + j)
theorem ip_int {op : Operator} {g : Int → Int → Int} (h : PIp X op (ipI g)) : IpD X op (intOp fun i j => some (g i j)) := by
  refine ⟨_, h, fun x y a b d S σ c Q e hh ra rb q => ?_⟩
  obtain ⟨i, j, k, rfl, rfl, e2, rfl⟩ := intOp_some e
  cases ra
  cases rb
  cases e2
  exact ⟨i, j, rfl, rfl, q c _ (Stp.refl _) hh (.int _)⟩
theorem ip_addD : IpD X .Add addI := ip_int ip_add
theorem ip_subD : IpD X .Sub subD := ip_int ip_sub
def gThree (i j l : Nat) : List D → List Slot → Option (List Slot) := fun ds S => match ds with
  | [a, b, c] => (gN i a S).bind fun S' => (gN j b S').bind fun S'' => gN l c S''
  | _ => none
def sPar3 (i j l : Nat) (f : EM (List D)) : SM := sOf f fun ds S => match gThree i j l ds S with | some S' => .nx S' | none => .bad
theorem ds_par3 (i j l : Nat) {x y z : Str} {a b c : Expr} {f : EM (List D)} {px py pz pt : Pos} {kt k2 pt2} (hc : X.calm = true) (hN : X.N.Nodup) (ha : DA X W [a, b, c] f) (hij : i ≠ j) (hil : i ≠ l) (hjl : j ≠ l) (hi : X.N[i]? = some x := by rfl) (hj : X.N[j]? = some y := by rfl) (hl : X.N[l]? = some z := by rfl)
    (hx : X.env.scope.names.lookup x = some .local := by rfl) (hy : X.env.scope.names.lookup y = some .local := by rfl) (hz : X.env.scope.names.lookup z = some .local := by rfl)
    (hw : swappedStores [.Tuple [.Name x px, .Name y py, .Name z pz] kt pt] (.Tuple [a, b, c] k2 pt2) X.env = pure (some [x, y, z]) := by rfl)
    (hs : swapsWithSole [.Tuple [.Name x px, .Name y py, .Name z pz] kt pt] (.Tuple [a, b, c] k2 pt2) pos.line X.env = pure false := by rfl) :
    DS X W (.Assign [.Tuple [.Name x px, .Name y py, .Name z pz] kt pt] (.Tuple [a, b, c] k2 pt2) pos) (sPar3 i j l f) := by
  refine PS.wk (ps_par3 hc hN hi hj hl hij hil hjl hx hy hz ha hw hs) fun Q σ H q => ?_
  obtain ⟨S, Z, F, h, q⟩ := q
  refine ⟨S, Z, F, h, Go.toS q fun ds S1 c1 s1 h1 q1 vs rs => ?_⟩
  match ds, rs with
  | [], _ => exact q1.elim
  | [_], _ => exact q1.elim
  | [_, _], _ => exact q1.elim
  | [d1, d2, d3], .cons r1 (.cons r2 (.cons r3 .nil)) =>
    refine ⟨_, _, _, rfl, ?_⟩
    cases e : gThree i j l [d1, d2, d3] S1 with
    | none => rw [e] at q1; exact q1.elim
    | some S2 =>
      rw [e] at q1
      have e' : (gN i d1 S1).bind (fun S' => (gN j d2 S').bind fun S'' => gN l d3 S'') = some S2 := e
      obtain ⟨S3, e1, e2⟩ := Option.bind_eq_some_iff.mp e'
      obtain ⟨S4, e3, e4⟩ := Option.bind_eq_some_iff.mp e2
      unfold gN at e1 e3 e4
      split at e1
      · rename_i hl1
        cases e1
        split at e3
        · rename_i hl2
          cases e3
          split at e4
          · rename_i hl3
            cases e4
            obtain ⟨F', st, h'⟩ := h1.setD hl1 r1
            obtain ⟨F2, st2, h2⟩ := h'.setD hl2 r2
            obtain ⟨F3, st3, h3⟩ := h2.setD hl3 r3
            exact q1 _ ⟨c1.Z, c1.H, F3⟩ ((st.trans st2).trans st3) h3
          · cases e4
        · cases e3
      · cases e1
  | _ :: _ :: _ :: _ :: _, _ => exact q1.elim
end
end FW

/-! FwK: the law's own draw of numbers. -/
namespace FW
open PySem PySem.Spec L2
open PyProof.Rows hiding St
/-- what one draw gives: the number, the new count, the new numbers -/
def takeL (k : Int) (ns : List Int) (m : Int) : Option (Int × Int × List Int) :=
  if m < 2 then some (0, k, ns) else
    if 0 < ns.length then (ns[(k % (ns.length : Int)).toNat]?).bind fun cell =>
      if 1000000000000000000 ≤ cell then (if m < 2 ^ 200 then some (cell % m, k, ns.set (k % (ns.length : Int)).toNat (cell / m)) else none)
      else some ((((((cell * 48271 + (k + 1) * 69621) % 2147483647) * 16807 + (k + 1) * 7919) % 1000000007) / 7) % m, k + 1, ns)
    else none
def takeW : Addr → Int → List Int → List D → Rw := fun _ k ns ds => match ds with
  | [.int m] => match takeL k ns m with
    | some (r, k', ns') => .ok (.int r) k' ns'
    | none => .bad
  | _ => .bad
theorem takeW_int {a : Addr} {k : Int} {ns : List Int} {ds : List D} (h : takeW a k ns ds ≠ .bad) : ∃ m, ds = [.int m] := by
  unfold takeW at h
  split at h
  · exact ⟨_, rfl⟩
  · exact absurd rfl h
theorem takeL_lt {k m r k' : Int} {ns ns' : List Int} (h : takeL k ns m = some (r, k', ns')) (hm : 2 ≤ m) : 0 ≤ r ∧ r < m ∧ ns'.length = ns.length := by
  unfold takeL at h
  rw [if_neg (by omega)] at h
  split at h
  · obtain ⟨cell, _, h⟩ := Option.bind_eq_some_iff.mp h
    split at h
    · split at h
      · cases h
        exact ⟨Int.emod_nonneg _ (by omega), Int.emod_lt_of_pos _ (by omega), by simp⟩
      · cases h
    · cases h
      exact ⟨Int.emod_nonneg _ (by omega), Int.emod_lt_of_pos _ (by omega), rfl⟩
  · cases h
/-- the numbers may be drawn from -/
def DrawOk (ns : List Int) : Prop := 0 < ns.length
/-- each draw goes, and is below its bound -/
theorem takeL_ok (k : Int) {ns : List Int} {m : Int} (h : DrawOk ns) (hm : m < 2 ^ 200) : ∃ r k' ns', takeL k ns m = some (r, k', ns') ∧ DrawOk ns' ∧ 0 ≤ r ∧ (m < 2 → r = 0) ∧ (1 ≤ m → r < m) := by
  unfold takeL
  by_cases h2 : m < 2
  · exact ⟨0, k, ns, by rw [if_pos h2], h, Int.le_refl _, fun _ => rfl, fun h => by omega⟩
  · rw [if_neg h2, if_pos (show 0 < ns.length from h)]
    have hpos : (0 : Int) < ns.length := by
      have h0 : 0 < ns.length := h
      omega
    have hlt : (k % (ns.length : Int)).toNat < ns.length := by
      have a1 := Int.emod_nonneg k (show (ns.length : Int) ≠ 0 by omega)
      have a2 := Int.emod_lt_of_pos k hpos
      omega
    rw [List.getElem?_eq_getElem hlt]
    simp only [Option.bind_some]
    split
    · first
        | rw [if_pos hm]
        | skip
      exact ⟨_, _, _, rfl, by unfold DrawOk; rw [List.length_set]; exact h, Int.emod_nonneg _ (by omega), fun _ => by omega, fun _ => Int.emod_lt_of_pos _ (by omega)⟩
    · exact ⟨_, _, _, rfl, h, Int.emod_nonneg _ (by omega), fun _ => by omega, fun _ => Int.emod_lt_of_pos _ (by omega)⟩
section
variable {K : PySem.W.Frag} {mg : Str → Option Value} {base : Heap}
theorem take_set0 {Z H : Hp} {a b : Addr} {k k' : Int} {ns : List Int} (h : Holds K [.drw a k ns] [some (.ref a)] ⟨Z, H, [a, b]⟩) (ha : H a = some (.lst [.int k, .ref b])) (hb : H b = some (.lst (ns.map V.int))) :
    Stp ⟨Z, H, [a, b]⟩ ⟨Z, upd H a (.lst [.int k', .ref b]), [a, b]⟩ ∧ Holds K [.drw a k' ns] [some (.ref a)] ⟨Z, upd H a (.lst [.int k', .ref b]), [a, b]⟩ := by
  have ne : b ≠ a := by
    have nd := h.nd
    simp only [List.nodup_cons, List.mem_singleton] at nd
    exact fun e => nd.1 e.symm
  refine ⟨⟨Same.refl _, fun c o q hn => ?_, fun c o q => ?_, fun c o q => .inl q, fun c m => .inl m⟩, ⟨?_, h.nd, h.zf, fun c o q => ?_⟩⟩
  · have hn' : c ≠ a := fun e => hn (by rw [e]; simp)
    exact (upd_ne hn').trans q
  · by_cases e : c = a
    · subst e
      exact ⟨_, upd_same⟩
    · exact ⟨o, (upd_ne e).trans q⟩
  · have q : HoldsL K ⟨Z, upd H a (.lst [.int k', .ref b]), [a, b]⟩ [.drw a k' ns] [some (.ref a)] ([a, b] ++ []) := .cons ⟨b, rfl, rfl, upd_same, (upd_ne ne).trans hb⟩ .nil
    exact q
  · have nc : c ≠ a := fun e => by
      subst e
      have q' : Z c = some o := q
      have z := h.zf c (by simp)
      have z' : Z c = none := z
      rw [z'] at q'
      cases q'
    exact (upd_ne nc).trans (h.zh c o q)
theorem take_set1 {Z H : Hp} {a b : Addr} {k : Int} {ns ns' : List Int} (h : Holds K [.drw a k ns] [some (.ref a)] ⟨Z, H, [a, b]⟩) (ha : H a = some (.lst [.int k, .ref b])) (hb : H b = some (.lst (ns.map V.int))) :
    Stp ⟨Z, H, [a, b]⟩ ⟨Z, upd H b (.lst (ns'.map V.int)), [a, b]⟩ ∧ Holds K [.drw a k ns'] [some (.ref a)] ⟨Z, upd H b (.lst (ns'.map V.int)), [a, b]⟩ := by
  have ne : a ≠ b := by
    have nd := h.nd
    simp only [List.nodup_cons, List.mem_singleton] at nd
    exact nd.1
  refine ⟨⟨Same.refl _, fun c o q hn => ?_, fun c o q => ?_, fun c o q => .inl q, fun c m => .inl m⟩, ⟨?_, h.nd, h.zf, fun c o q => ?_⟩⟩
  · have hn' : c ≠ b := fun e => hn (by rw [e]; simp)
    exact (upd_ne hn').trans q
  · by_cases e : c = b
    · subst e
      exact ⟨_, upd_same⟩
    · exact ⟨o, (upd_ne e).trans q⟩
  · have q : HoldsL K ⟨Z, upd H b (.lst (ns'.map V.int)), [a, b]⟩ [.drw a k ns'] [some (.ref a)] ([a, b] ++ []) := .cons ⟨b, rfl, rfl, (upd_ne ne).trans ha, upd_same⟩ .nil
    exact q
  · have nc : c ≠ b := fun e => by
      subst e
      have q' : Z c = some o := q
      have z := h.zf c (by simp)
      have z' : Z c = none := z
      rw [z'] at q'
      cases q'
    exact (upd_ne nc).trans (h.zh c o q)
/-- what the first statement of a law leaves -/
def spSt (K : PySem.W.Frag) : Sp := fun vs H Q _ => ∃ (s : Addr) (ns : List Int), vs = [.ref s] ∧ SqL K H s (ns.map V.int) ∧ ns.length ≤ 63 ∧
  ∀ H' a b, Same H H' → H a = none → H b = none → a ≠ b → ∀ ms : List Int, DrawOk ms → H' a = some (.lst [.int 0, .ref b]) → H' b = some (.lst (ms.map V.int)) → Q (.ref a) H'
def spLaw (K : PySem.W.Frag) : Sp := fun vs H Q _ => ∃ (a : Addr) (ns : List Int), vs = [.ref a] ∧ SqL K H a (ns.map V.int) ∧ ns.length ≤ 63 ∧ ∀ H', Q (.bl true) H'
end
end FW

/-! FwL: dicts: made, asked, walked. -/
namespace FW
open PySem PySem.Spec L2
open PyProof.Rows hiding St
section
variable {X : Cx} {W : WX} {pos : Pos}
/-! ### fresh dicts -/
def tM (G : Gx) (t : Bool) (f : EM (List (D × D))) : TE := fun σ H Q => ∃ S Z F, Holds G.K S σ ⟨Z, H, F⟩ ∧ Go G σ ⟨Z, H, F⟩ (f S) (fun es _ c' => ∀ p u, c'.H p = none → DicAt G.K c'.Z (some u) t es → Q (.ref p) (upd c'.H p u))
def DM (X : Cx) (W : WX) (t : Bool) (e : Expr) (f : EM (List (D × D))) : Prop := PE X e (tM (gx X W) t f)
def sDic (i : Nat) (t : Bool) (f : EM (List (D × D))) : SM := sOf f fun es S => if i < S.length then .nx (S.set i (.dic t es)) else .bad
theorem ds_dic (i : Nat) {t : Bool} {x : Str} {e : Expr} {f : EM (List (D × D))} {pos' : Pos} (hN : X.N.Nodup) (he : DM X W t e f) (hi : X.N[i]? = some x := by rfl) (hx : Loc X.env.scope x := by first | exact Or.inl rfl | exact Or.inr rfl) (hs : swapsWith e (some (.Name x pos')) pos.line X.env = pure false := by rfl)
    (hf : X.fn x = true ∨ X.env.scope.names.lookup x = some .local := by first | exact .inl rfl | exact .inr rfl | assumption) : DS X W (.Assign [.Name x pos'] e pos) (sDic i t f) := by
  refine PS.wk (ps_set hN hi hx he hs hf) fun Q σ H q => ?_
  obtain ⟨S, Z, F, h, q⟩ := q
  refine ⟨S, Z, F, h, Go.toS q fun es S1 c1 s1 h1 q1 p u hp da => ?_⟩
  split at q1
  · rename_i hl
    obtain ⟨F', st, h'⟩ := h1.setU (u := u) (sl := .dic t es) hl hp fun F' => ⟨p, rfl, rfl, by
      show DicAt X.K c1.Z (upd c1.H p u p) t es
      rw [upd_same]
      exact da⟩
    exact q1 _ ⟨c1.Z, upd c1.H p u, F'⟩ st h'
  · exact q1.elim
/-- .. frozen at once -/
def eFzM (t : Bool) (f : EM (List (D × D))) : EM D := eBind f fun es => eRet (dictD t es)
theorem de_m {t : Bool} {e : Expr} {f : EM (List (D × D))} (he : DM X W t e f) : DE X W e (eFzM t f) := by
  refine PE.wk (pe_frz he) fun σ H Q q => ?_
  obtain ⟨S, Z, F, h, q⟩ := q
  refine ⟨S, Z, F, h, (Go.bind q).mono fun es S1 c1 s1 h1 q1 p u hp da => .inr ⟨p, u, upd_same, ?_, fun od => ?_⟩⟩
  · obtain ⟨u', e1, mu, _⟩ := da.obj
    cases e1
    exact mu
  · obtain ⟨s2, h2⟩ := h1.lay (o := .frz od u) hp
    have q2 := q1 (c1.lay p (.frz od u)) s2 h2 (.ref p) ((da.mono s2.z).lockR upd_same)
    have e : upd (upd c1.H p u) p (.frz od u) = upd c1.H p (.frz od u) := by
      funext b
      by_cases hb : b = p
      · subst hb
        rw [upd_same, upd_same]
      · rw [upd_ne hb, upd_ne hb, upd_ne hb]
    rw [e]
    exact q2
theorem DicAt.empty {K : PySem.W.Frag} {Z : Hp} : ∀ t : Bool, ∃ u, DicAt K Z (some u) t [] ∧ ((t = false ∧ u = .dK []) ∨ (t = true ∧ u = .dT []))
  | false => ⟨.dK [], ⟨[], [], [], rfl, rfl, .nil, rfl⟩, .inl ⟨rfl, rfl⟩⟩
  | true => ⟨.dT [], ⟨[], [], [], rfl, rfl, .nil, rfl⟩, .inr ⟨rfl, rfl⟩⟩
theorem DicAt.nilK {K : PySem.W.Frag} {Z : Hp} {u : HO} (h : DicAt K Z (some u) false []) : u = .dK [] := by
  obtain ⟨ks, vs, ds, h1, h2, h3, h4⟩ := h
  cases h1
  have l : ks.length = 0 := by
    have := congrArg List.length h4
    simp [h2] at this
    omega
  cases ks with
  | nil => rfl
  | cons _ _ => simp at l
theorem DicAt.nilT {K : PySem.W.Frag} {Z : Hp} {u : HO} (h : DicAt K Z (some u) true []) : u = .dT [] := by
  obtain ⟨ks, vs, ds, h1, h2, h3, h4⟩ := h
  cases h1
  have l : ks.length = 0 := by
    have := congrArg List.length h4
    simp [h2] at this
    omega
  cases ks with
  | nil => rfl
  | cons _ _ => simp at l
theorem dm_nilK : DM X W false (.Dict [] [] pos) (eRet []) := by
  refine PE.wk pe_dnewK fun σ H Q q p hp => ?_
  obtain ⟨S, Z, F, h, q⟩ := q
  exact q _ (Stp.refl _) h p (.dK []) hp ⟨[], [], [], rfl, rfl, .nil, rfl⟩
theorem dm_nilT : DM X W true (.Dict [] [] pos) (eRet []) := by
  refine PE.wk pe_dnewT fun σ H Q q p hp => ?_
  obtain ⟨S, Z, F, h, q⟩ := q
  exact q _ (Stp.refl _) h p (.dT []) hp ⟨[], [], [], rfl, rfl, .nil, rfl⟩
/-! ### displays -/
section
variable {pins : List (Addr × Obj)} {σ : L2.St} {H : Hp} {s : Shared} {a : Addr} {y v : V} {u r : Value} {A : Around} {E : Value → Shared → Prop}
theorem d_dictSet {H' : Hp} {Q : Unit → Shared → Prop} (hu : A.units + 1 < cLine) (I : Inv X pins σ H s) (g : DPut H a y v H') (ry : RelV y u) (rv : RelV v r) (h : ∀ s', Inv X pins σ H' s' → Q () s') :
    wpAny (model X.prog X.w) A (dictSet a u r) Q E s := by
  rcases g with ⟨kvs, k, e, ey, l, eH⟩ | ⟨kvs, k, b, e, ey, eb, l, eH⟩
  · subst ey eH
    obtain ⟨z, hd, vs, rel, dd⟩ := dk_of I.hok e
    have hz : vs.length ≤ sizeLine := by rw [← rel.length]; exact z
    have hl : (putK kvs k v).length ≤ sizeLine := by have := length_putK kvs k v; omega
    refine wpAny_dictSet_pairs (hsz := hz) (kV_is ry) dd fun h' dd' hs => h _ ?_
    have he : ∃ q, h'.get? a = some q := let ⟨q, _, _, hq, _⟩ := dd'; ⟨q, hq⟩
    exact d_write I (by rw [e]; exact True.intro) hs he (dk_new hl hd (rel.put k rv) dd')
  · subst ey eH
    cases (show u = Value.ref b from ry)
    obtain ⟨z, hd, xs, rel, dd⟩ := dt_of I.hok e
    have hz : xs.length ≤ sizeLine := by rw [← Paired.length rel]; exact z
    have hl : (putK kvs k v).length ≤ sizeLine := by have := length_putK kvs k v; omega
    refine wpAny_dictSet_heap (hsz := hz) (show A.units < cLine by omega) (key_of I.hok eb) dd fun h' dd' hs => h _ ?_
    obtain ⟨q, es, ep, hq, h2, h3, h4, _, h5⟩ := dd'
    refine d_write I (by rw [e]; exact True.intro) hs ⟨q, hq⟩ ⟨hl, hd, _, (rel.put k eb rv).keeps fun c ys ec => ?_, q, es, ep, hq, h2, h3, h4, h5⟩
    rw [upd_ne (ne_of ec e (fun z => nomatch z))]
    exact ec
end
/-- the pairs stored, one by one -/
def Puts (a : Addr) : List (V × V) → Hp → (Hp → Prop) → Prop
  | [], H, Q => Q H
  | (y, v) :: r, H, Q => ∃ H', DPut H a y v H' ∧ Puts a r H' Q
theorem puts_run {pins : List (Addr × Obj)} {σ : L2.St} {a : Addr} {A : Around} {E : Value → Shared → Prop} (hu : A.units + 1 < cLine) : ∀ {ps : List (V × V)} {vs : List (Value × Value)} {H : Hp} {s : Shared} {R : PUnit → Shared → Prop} {Q : Hp → Prop}, Inv X pins σ H s → VV ps vs → Puts a ps H Q →
    (∀ H' s', Inv X pins σ H' s' → Q H' → R PUnit.unit s') → wpAny (model X.prog X.w) A (storeAll a vs) R E s
  | [], _, H, s, R, Q, I, .nil, q, k => by
    unfold storeAll
    rw [List.forIn_nil]
    exact wpAny_pure (k H s I q)
  | (y, v) :: ps, _, H, s, R, Q, I, .cons (b := b) (l₂ := vs) r rs, q, k => by
    obtain ⟨H', g, q⟩ := q
    unfold storeAll
    rw [List.forIn_cons]
    exact wpAny_bind (wpAny_bind (d_dictSet hu I g r.1 r.2 fun s' I' => wpAny_pure (puts_run hu I' rs q k)))
def tDispG (t : Bool) (trs : List (TE × TE)) : TE := fun σ H Q => ∀ p o, H p = none → o = (if t then HO.dT [] else HO.dK []) → tPairs trs σ (upd H p o) fun ps H2 => Puts p ps H2 fun H3 => Q (.ref p) H3
theorem pe_dispG (t : Bool) {keys : List (Option Expr)} {values : List Expr} {trs : List (TE × TE)} (hu : X.A.units + 1 < cLine) (h : PPs X pos keys values trs) (hall : keys.all (·.isSome) = true) (hl : keys.length = values.length) (h0 : keys ≠ [])
    (h15 : keys.length ≤ 15) : PE X (.Dict keys values pos) (tDispG t trs) := by
  refine ⟨fun pins s σ H Q I q => ?_⟩
  have hn := I.hok.fresh (Nat.le_refl s.heap.objs.size)
  refine wpAny_Dict_any hall hl h0 h15 ?_
  cases t with
  | false =>
    have I1 := I.laid (a := s.heap.objs.size) (o := .dK []) (h' := s.heap.push { cls := .type "dict", data := .dict #[] }) (t' := s.toks) (fun _ _ q => Heap.get?_push_of_some _ q) (Nat.le_refl _) (dk_empty s.heap I.big)
    refine thn (h.run pins _ σ _ _ I1 (q _ _ hn rfl)) fun ws s2 ⟨ps, H2, I2, rel, q2⟩ => ?_
    exact puts_run hu I2 rel q2 fun H' s' I' q' => ⟨.ref s.heap.objs.size, H', I', rfl, q'⟩
  | true =>
    have I1 := I.laid (a := s.heap.objs.size) (o := .dT []) (h' := s.heap.push { cls := .type "dict", data := .dict #[] }) (t' := s.toks) (fun _ _ q => Heap.get?_push_of_some _ q) (Nat.le_refl _) (dt_empty s.heap I.big)
    refine thn (h.run pins _ σ _ _ I1 (q _ _ hn rfl)) fun ws s2 ⟨ps, H2, I2, rel, q2⟩ => ?_
    exact puts_run hu I2 rel q2 fun H' s' I' q' => ⟨.ref s.heap.objs.size, H', I', rfl, q'⟩
/-- the pairs of a display -/
def ePairs : List (EM D × EM D) → EM (List (D × D))
  | [] => eRet []
  | (fk, fv) :: r => eBind fk fun k => eBind fv fun v => eBind (ePairs r) fun es => eRet ((k, v) :: es)
inductive DPr (X : Cx) (W : WX) (pos : Pos) : List (Option Expr) → List Expr → List (EM D × EM D) → Prop
  | nil : DPr X W pos [] [] []
  | cons {k v : Expr} {ks : List (Option Expr)} {vs : List Expr} {fk fv : EM D} {r : List (EM D × EM D)} : DE X W k fk → DE X W v fv → DPr X W pos ks vs r → DPr X W pos (some k :: ks) (v :: vs) ((fk, fv) :: r)
theorem DPr.pps {ks : List (Option Expr)} {vs : List Expr} {fs : List (EM D × EM D)} (h : DPr X W pos ks vs fs) : PPs X pos ks vs (fs.map fun p => (tD (gx X W) p.1, tD (gx X W) p.2)) := by
  induction h with
  | nil => exact pps_nil
  | cons h1 h2 _ ih => exact pps_cons h1 h2 ih
theorem DPr.all {ks : List (Option Expr)} {vs : List Expr} {fs : List (EM D × EM D)} (h : DPr X W pos ks vs fs) : ks.all (·.isSome) = true ∧ ks.length = vs.length ∧ ks.length = fs.length := by
  induction h with
  | nil => exact ⟨rfl, rfl, rfl⟩
  | cons _ _ _ ih => exact ⟨by simpa using ih.1, by simp [ih.2.1], by simp [ih.2.2]⟩
inductive RpP (K : PySem.W.Frag) (Z : Hp) : List (V × V) → List (D × D) → Prop
  | nil : RpP K Z [] []
  | cons {y v : V} {k d : D} {ps : List (V × V)} {es : List (D × D)} : Rp K Z y k → Rp K Z v d → RpP K Z ps es → RpP K Z ((y, v) :: ps) ((k, d) :: es)
theorem pairs_rd {σ : Sg} {P : List (D × D) → List Slot → Cfg → Prop} : ∀ (fs : List (EM D × EM D)) {S : List Slot} {c : Cfg} {Q : List (V × V) → Hp → Prop}, Holds X.K S σ c → Go (gx X W) σ c (ePairs fs S) P →
    (∀ es S' c' ps, Stp c c' → Holds X.K S' σ c' → RpP X.K c'.Z ps es → P es S' c' → Q ps c'.H) → tPairs (fs.map fun p => (tD (gx X W) p.1, tD (gx X W) p.2)) σ c.H Q
  | [], S, c, Q, h, q, k => k [] S c [] (Stp.refl _) h .nil (q c (Stp.refl _) h)
  | (fk, fv) :: fs, S, c, Q, h, q, k => by
    refine ⟨S, c.Z, c.F, h, (Go.bind q).mono fun kk S1 c1 s1 h1 q1 x rx => ?_⟩
    refine ⟨S1, c1.Z, c1.F, h1, (Go.bind q1).mono fun vv S2 c2 s2 h2 q2 y ry => ?_⟩
    refine pairs_rd fs (P := fun es S' c' => P ((kk, vv) :: es) S' c') h2 ((Go.bind q2).mono fun es S3 c3 s3 h3 q3 => q3 c3 (Stp.refl _) h3) fun es S3 c3 ps s3 h3 rp q3 => ?_
    exact k ((kk, vv) :: es) S3 c3 ((x, y) :: ps) (s1.trans (s2.trans s3)) h3 (.cons ((rx.mono s2.z).mono s3.z) (ry.mono s3.z) rp) q3
def esPuts (t : Bool) : List (D × D) → List (D × D) → Option (List (D × D))
  | es, [] => some es
  | es, (k, v) :: r => if isKey t k then esPuts t (esPut es k v) r else none
theorem esPut_len (es : List (D × D)) (k v : D) : (esPut es k v).length ≤ es.length + 1 := by
  unfold esPut
  split <;> simp
theorem puts_rd {K : PySem.W.Frag} {c : Cfg} {p : Addr} {t : Bool} (zh : Same c.Z c.H) (zp : c.Z p = none) : ∀ {ps : List (V × V)} {es acc out : List (D × D)} {u : HO} {Q : Hp → Prop}, RpP K c.Z ps es → esPuts t acc es = some out → acc.length + es.length < sizeLine → DicAt K c.Z (some u) t acc →
    (∀ u', DicAt K c.Z (some u') t out → Q (upd c.H p u')) → Puts p ps (upd c.H p u) Q
  | [], _, acc, out, u, Q, .nil, e, _, da, q => by
    cases e
    exact q u da
  | (y, v) :: ps, _, acc, out, u, Q, .cons (k := k) (d := d) (es := es) rk rv r, e, hl, da, q => by
    unfold esPuts at e
    split at e
    · rename_i hk
      rw [List.length_cons] at hl
      have sm : Same c.Z (upd c.H p u) := fun b o e => by
        have ne : b ≠ p := by
          rintro rfl
          rw [zp] at e
          cases e
        rw [upd_ne ne]
        exact zh b o e
      obtain ⟨u', g, da'⟩ := DicAt.put (H := upd c.H p u) (a := p) sm (by rw [upd_same]; exact da) hk rk rv (by omega)
      have e2 : upd (upd c.H p u) p u' = upd c.H p u' := by
        funext b
        by_cases hb : b = p
        · subst hb
          rw [upd_same, upd_same]
        · rw [upd_ne hb, upd_ne hb, upd_ne hb]
      rw [e2] at g
      have := esPut_len acc k d
      exact ⟨_, g, puts_rd zh zp r e (by omega) da' q⟩
    · cases e
def eDisp (t : Bool) (fs : List (EM D × EM D)) : EM (List (D × D)) := eBind (ePairs fs) fun es => if es.length ≤ 15 then eOpt (esPuts t [] es) else fun _ => .bad
theorem Cfg.del_ok {K : PySem.W.Frag} {S : List Slot} {σ : Sg} {c c' : Cfg} {p : Addr} {o : HO} (hp : c.H p = none) (s : Stp (c.tmp p o) c') (h : Holds K S σ c') (zp : c'.Z p = none) (pF : p ∉ c'.F) :
    Stp c ⟨c'.Z, fun b => if b = p then none else c'.H b, c'.F⟩ ∧ Holds K S σ ⟨c'.Z, fun b => if b = p then none else c'.H b, c'.F⟩ := by
  have hne : ∀ b, b ≠ p → (fun b => if b = p then none else c'.H b : Hp) b = c'.H b := fun b hb => if_neg hb
  have nb : ∀ {b x}, c.H b = some x → b ≠ p := fun {b x} e => by
    rintro rfl
    rw [hp] at e
    cases e
  have old : ∀ {b x}, c.H b = some x → (c.tmp p o).H b = some x := fun {b x} e => (upd_ne (nb e)).trans e
  refine ⟨⟨s.z, fun b x e hn => (hne b (nb e)).trans (s.k b x (old e) hn), fun b x e => ?_, fun b x e => ?_, fun b m => ?_⟩, ⟨?_, h.nd, h.zf, fun b x e => ?_⟩⟩
  · obtain ⟨x', e'⟩ := s.t b x (old e)
    exact ⟨x', (hne b (nb e)).trans e'⟩
  · have bp : b ≠ p := by
      rintro rfl
      have e' : c'.Z b = some x := e
      rw [zp] at e'
      cases e'
    have back : (c.tmp p o).H b = c.H b := upd_ne bp
    rcases s.n b x e with z | z | z | ⟨xs, z⟩
    · exact .inl z
    · exact .inr (.inl (back ▸ z))
    · exact .inr (.inr (.inl z))
    · exact .inr (.inr (.inr ⟨xs, back ▸ z⟩))
  · have bp : b ≠ p := by
      rintro rfl
      exact pF m
    have back : (c.tmp p o).H b = c.H b := upd_ne bp
    rcases s.f b m with z | z
    · exact .inl z
    · exact .inr (back ▸ z)
  · exact HoldsL.tr (c := c') (c' := ⟨c'.Z, fun b => if b = p then none else c'.H b, c'.F⟩) (Same.refl c'.Z) h.l fun a ha => hne a fun z => pF (z ▸ ha)
  · have bp : b ≠ p := by
      rintro rfl
      have e' : c'.Z b = some x := e
      rw [zp] at e'
      cases e'
    exact (hne b bp).trans (h.zh b x e)
theorem dm_disp {t : Bool} {ks : List (Option Expr)} {vs : List Expr} {fs : List (EM D × EM D)} (hu : X.A.units + 64 < cLine) (h : DPr X W pos ks vs fs) (h0 : ks ≠ [] := by decide) (h15 : ks.length ≤ 15 := by decide) : DM X W t (.Dict ks vs pos) (eDisp t fs) := by
  obtain ⟨a1, a2, a3⟩ := h.all
  refine PE.wk (pe_dispG t (by omega) h.pps a1 a2 h0 h15) fun σ H Q q p o hp ho => ?_
  obtain ⟨S, Z, F, hh, q⟩ := q
  obtain ⟨st, h1⟩ := hh.tmpS (o := o) hp
  have q0 := Go.bind q
  cases er : ePairs fs S with
  | bad => rw [er] at q0; exact q0.elim
  | ex x S1 =>
    rw [er] at q0
    exact pairs_rd fs (c := (⟨Z, H, F⟩ : Cfg).tmp p o) (P := fun _ _ _ => False) h1 (by rw [er]; exact fun c' cls dx s hh x => q0 c' cls dx (st.trans s) hh x) fun es S2 c2 ps s2 h2 rp q2 => q2.elim
  | ok es S1 =>
  rw [er] at q0
  refine pairs_rd fs (c := (⟨Z, H, F⟩ : Cfg).tmp p o) (P := fun es' S' _ => es' = es ∧ S' = S1) h1 (by rw [er]; exact fun c' _ _ => ⟨rfl, rfl⟩) fun es' S2 c2 ps s2 h2 rp ⟨ee, eS⟩ => ?_
  subst ee eS
  have hF0 : p ∉ ((⟨Z, H, F⟩ : Cfg).tmp p o).F := hh.nF hp
  have e2 : c2.H p = some o := s2.k p o upd_same hF0
  have z2 : c2.Z p = none := by
    cases e : c2.Z p with
    | none => rfl
    | some x =>
      rcases s2.n p x e with z | z | z | ⟨xs, z⟩
      · have z' : Z p = some x := z
        rw [show Z p = none from hh.nf hp] at z'
        cases z'
      · have z' : upd H p o p = none := z
        rw [upd_same] at z'
        cases z'
      · exact absurd z hF0
      · have z' : upd H p o p = some (.tup xs) := z
        rw [upd_same] at z'
        cases t <;> simp at ho <;> subst ho <;> cases z'
  have f2 : p ∉ c2.F := fun m => by
    rcases s2.f p m with z | z
    · exact hF0 z
    · have z' : upd H p o p = none := z
      rw [upd_same] at z'
      cases z'
  obtain ⟨st3, h3⟩ := Cfg.del_ok (c := ⟨Z, H, F⟩) hp s2 h2 z2 f2
  have dd : DicAt X.K c2.Z (some o) t [] := by
    cases t with
    | false => subst ho; exact ⟨[], [], [], rfl, rfl, .nil, rfl⟩
    | true => subst ho; exact ⟨[], [], [], rfl, rfl, .nil, rfl⟩
  have eq : upd c2.H p o = c2.H := by
    funext b
    by_cases hb : b = p
    · subst hb
      rw [upd_same, e2]
    · rw [upd_ne hb]
  have q3 := q0 _ st3 h3
  have q4 : Go (gx X W) σ ⟨c2.Z, fun b => if b = p then none else c2.H b, c2.F⟩ ((if es'.length ≤ 15 then eOpt (esPuts t [] es') else fun _ => .bad) S2) (fun es _ c' => ∀ p u, c'.H p = none → DicAt X.K c'.Z (some u) t es → Q (.ref p) (upd c'.H p u)) := q3
  split at q4
  rotate_left
  · exact q4.elim
  rename_i hl
  obtain ⟨out, e1, k⟩ := Go.opt q4
  have h16 : (15 : Nat) < sizeLine := by decide
  have g := puts_rd (K := X.K) (c := c2) (p := p) (t := t) h2.zh z2 (acc := []) (u := o) (Q := fun H3 => Q (.ref p) H3) rp e1 (by rw [List.length_nil]; omega) dd fun u' da => by
    have q5 := k _ (Stp.refl _) h3 p u' (if_pos rfl) da
    have eq3 : upd (fun b => if b = p then none else c2.H b) p u' = upd c2.H p u' := by
      funext b
      by_cases hb : b = p
      · subst hb
        rw [upd_same, upd_same]
      · rw [upd_ne hb, upd_ne hb]
        exact if_neg hb
    rw [← eq3]
    exact q5
  rw [eq] at g
  exact g
/-! ### d.get(k, x), d.get(k) -/
def getDic (d k : D) : Option (Option D) := (dicOf d).bind fun te => if isKey te.1 k then some (esGet te.2 k) else none
def eGet2 (fo fk fx : EM D) : EM D := eBind fo fun d => eBind fk fun k => eBind fx fun x => eOpt ((getDic d k).map fun o => o.getD x)
def eGet1 (fo fk : EM D) : EM D := eBind fo fun d => eBind fk fun k => eOpt ((getDic d k).map fun o => o.getD .none)
theorem getDic_lo {c : Cfg} {x y : V} {d k : D} {o : Option D} (sm : Same c.Z c.H) (e : getDic d k = some o) (rb : Lo X.K c x d) (ra : Rp X.K c.Z y k) : ∃ p o', x = .ref p ∧ IsD c.H p ∧ DGet c.H p y o' ∧ RpO X.K c.Z o' o := by
  obtain ⟨⟨t, es⟩, e1, e2⟩ := Option.bind_eq_some_iff.mp e
  dsimp only at e2
  split at e2
  · rename_i hk
    cases e2
    obtain ⟨p, u, rfl, hr, da⟩ := rb.dicI sm e1
    obtain ⟨o, g, ro⟩ := da.get sm hr hk ra
    refine ⟨p, o, rfl, ?_, g, ro⟩
    rcases da.len with ⟨kvs, h1, _⟩ | ⟨kvs, h1, _⟩
    · cases h1; exact .inl ⟨kvs, hr⟩
    · cases h1; exact .inr ⟨kvs, hr⟩
  · cases e2
/-- a dict as it lies -/
theorem Lo.isD {c : Cfg} {x : V} {d : D} (sm : Same c.Z c.H) (h : Lo X.K c x d) (e : (dicOf d).isSome = true) : ∃ p, x = .ref p ∧ IsD c.H p := by
  obtain ⟨⟨t, es⟩, e1⟩ := Option.isSome_iff_exists.mp e
  obtain ⟨p, u, rfl, hr, da⟩ := h.dicI sm e1
  refine ⟨p, rfl, ?_⟩
  rcases da.len with ⟨kvs, h1, _⟩ | ⟨kvs, h1, _⟩
  · cases h1; exact .inl ⟨kvs, hr⟩
  · cases h1; exact .inr ⟨kvs, hr⟩
variable {e k v : Expr} {apos : Pos} {fo fk fx : EM D}
/-- the receiver must be a dict before the arguments are looked at -/
def eDic (f : EM D) : EM D := eBind f fun d => if (dicOf d).isSome then eRet d else fun _ => .bad
theorem de_get2 (hu : X.A.units + 64 < cLine) (ho : DE X W e fo) (hk : DE X W k fk) (hv : DE X W v fx) (m : M2 X e "get" apos k v pos := by exact ⟨rfl, rfl, rfl, rfl⟩) :
    DE X W (.Call (.Attribute e "get" apos) [k, v] [] pos) (eGet2 (eDic fo) fk fx) := by
  refine PE.wk (pe_dget2 (by omega) ho hk hv m) fun σ H Q q => ?_
  obtain ⟨S, Z, F, h, q⟩ := q
  have q' := (Go.bind q)
  unfold eDic at q'
  refine ⟨S, Z, F, h, (Go.bind q').mono fun d S1 c1 s1 h1 q1 x rx => ?_⟩
  split at q1
  · rename_i hd
    have q1' := q1 c1 (Stp.refl _) h1
    obtain ⟨p, rfl, isd⟩ := Lo.isD h1.zh (.z rx) hd
    refine ⟨p, rfl, isd, S1, c1.Z, c1.F, h1, (Go.bind q1').mono fun kk S2 c2 s2 h2 q2 y ry => ?_⟩
    refine ⟨S2, c2.Z, c2.F, h2, (Go.bind q2).mono fun xx S3 c3 s3 h3 q3 z rz => ?_⟩
    obtain ⟨r, e1, k⟩ := Go.opt q3
    obtain ⟨o, e2, e3⟩ := Option.map_eq_some_iff.mp e1
    subst e3
    obtain ⟨p', o', ep, _, g, ro⟩ := getDic_lo h3.zh e2 (.z ((rx.mono s2.z).mono s3.z)) (ry.mono s3.z)
    cases ep
    exact ⟨o', g, k c3 (Stp.refl _) h3 _ (ro.getD rz)⟩
  · exact q1.elim
theorem de_get1 (hu : X.A.units + 64 < cLine) (ho : DE X W e fo) (hk : DE X W k fk) (m : M1 X e "get" apos k pos := by exact ⟨rfl, rfl, rfl, rfl⟩) :
    DE X W (.Call (.Attribute e "get" apos) [k] [] pos) (eGet1 (eDic fo) fk) := by
  refine PE.wk (pe_dget1 (by omega) ho hk m) fun σ H Q q => ?_
  obtain ⟨S, Z, F, h, q⟩ := q
  have q' := (Go.bind q)
  unfold eDic at q'
  refine ⟨S, Z, F, h, (Go.bind q').mono fun d S1 c1 s1 h1 q1 x rx => ?_⟩
  split at q1
  · rename_i hd
    have q1' := q1 c1 (Stp.refl _) h1
    obtain ⟨p, rfl, isd⟩ := Lo.isD h1.zh (.z rx) hd
    refine ⟨p, rfl, isd, S1, c1.Z, c1.F, h1, (Go.bind q1').mono fun kk S2 c2 s2 h2 q2 y ry => ?_⟩
    obtain ⟨r, e1, k⟩ := Go.opt q2
    obtain ⟨o, e2, e3⟩ := Option.map_eq_some_iff.mp e1
    subst e3
    obtain ⟨p', o', ep, _, g, ro⟩ := getDic_lo h2.zh e2 (.z (rx.mono s2.z)) ry
    cases ep
    exact ⟨o', g, k c2 (Stp.refl _) h2 _ (ro.getD .non)⟩
  · exact q1.elim
/-- .. of a dict in a slot of its own -/
def slotDic (S : List Slot) (i : Nat) : Option D := (slotAt S i).bind fun d => if (dicOf d).isSome then some d else none
def eGet2O (i : Nat) (fk fx : EM D) : EM D := fun S0 => match slotDic S0 i with
  | some _ => eBind fk (fun k => eBind fx fun x S => match slotAt S i with
    | some d => eOpt ((getDic d k).map fun o => o.getD x) S
    | none => .bad) S0
  | _ => .bad
def eGet1O (i : Nat) (fk : EM D) : EM D := fun S0 => match slotDic S0 i with
  | some _ => eBind fk (fun k S => match slotAt S i with
    | some d => eOpt ((getDic d k).map fun o => o.getD .none) S
    | none => .bad) S0
  | _ => .bad
variable {x : Str} {p : Pos}
theorem de_get2O (hu : X.A.units + 64 < cLine) (i : Nat) (hk : DE X W k fk) (hv : DE X W v fx) (hN : X.N[i]? = some x := by rfl) (hvis : Vis X.env.scope x := by first | exact Or.inl rfl | exact Or.inr (Or.inl rfl) | exact Or.inr (Or.inr rfl)) (hd : (x == ("__debug__" : Str)) = false := by decide) (hcd : (x == ("__classdict__" : Str)) = false := by decide)
    (m : M2 X (.Name x p) "get" apos k v pos := by exact ⟨rfl, rfl, rfl, rfl⟩) : DE X W (.Call (.Attribute (.Name x p) "get" apos) [k, v] [] pos) (eGet2O i fk fx) := by
  refine PE.wk (pe_dget2 (by omega) (pe_var hN hvis hd hcd) hk hv m) fun σ H Q q => ?_
  obtain ⟨S, Z, F, h, q⟩ := q
  unfold eGet2O at q
  split at q
  rotate_left
  · exact q.elim
  rename_i d0 e0
  obtain ⟨d1, e0a, e0b⟩ := Option.bind_eq_some_iff.mp e0
  split at e0b
  rotate_left
  · cases e0b
  rename_i hdd
  obtain ⟨p0, e2, r0⟩ := h.loAt e0a
  obtain ⟨p1, ep, isd⟩ := r0.isD h.zh hdd
  cases ep
  refine ⟨.ref p0, e2, p0, rfl, isd, S, Z, F, h, (Go.bind q).mono fun kk S1 c1 s1 h1 q1 y ry => ?_⟩
  refine ⟨S1, c1.Z, c1.F, h1, (Go.bind q1).mono fun xx S2 c2 s2 h2 q2 z rz => ?_⟩
  split at q2
  · rename_i d e3
    obtain ⟨p3, e4, r3⟩ := h2.loAt e3
    rw [e2] at e4
    cases e4
    obtain ⟨r, e5, k⟩ := Go.opt q2
    obtain ⟨o, e6, e7⟩ := Option.map_eq_some_iff.mp e5
    subst e7
    obtain ⟨p', o', ep, _, g, ro⟩ := getDic_lo h2.zh e6 r3 (ry.mono s2.z)
    cases ep
    exact ⟨o', g, k c2 (Stp.refl _) h2 _ (ro.getD rz)⟩
  · exact q2.elim
theorem de_get1O (hu : X.A.units + 64 < cLine) (i : Nat) (hk : DE X W k fk) (hN : X.N[i]? = some x := by rfl) (hvis : Vis X.env.scope x := by first | exact Or.inl rfl | exact Or.inr (Or.inl rfl) | exact Or.inr (Or.inr rfl)) (hd : (x == ("__debug__" : Str)) = false := by decide) (hcd : (x == ("__classdict__" : Str)) = false := by decide)
    (m : M1 X (.Name x p) "get" apos k pos := by exact ⟨rfl, rfl, rfl, rfl⟩) : DE X W (.Call (.Attribute (.Name x p) "get" apos) [k] [] pos) (eGet1O i fk) := by
  refine PE.wk (pe_dget1 (by omega) (pe_var hN hvis hd hcd) hk m) fun σ H Q q => ?_
  obtain ⟨S, Z, F, h, q⟩ := q
  unfold eGet1O at q
  split at q
  rotate_left
  · exact q.elim
  rename_i d0 e0
  obtain ⟨d1, e0a, e0b⟩ := Option.bind_eq_some_iff.mp e0
  split at e0b
  rotate_left
  · cases e0b
  rename_i hdd
  obtain ⟨p0, e2, r0⟩ := h.loAt e0a
  obtain ⟨p1, ep, isd⟩ := r0.isD h.zh hdd
  cases ep
  refine ⟨.ref p0, e2, p0, rfl, isd, S, Z, F, h, (Go.bind q).mono fun kk S1 c1 s1 h1 q1 y ry => ?_⟩
  split at q1
  · rename_i d e3
    obtain ⟨p3, e4, r3⟩ := h1.loAt e3
    rw [e2] at e4
    cases e4
    obtain ⟨r, e5, k⟩ := Go.opt q1
    obtain ⟨o, e6, e7⟩ := Option.map_eq_some_iff.mp e5
    subst e7
    obtain ⟨p', o', ep, _, g, ro⟩ := getDic_lo h1.zh e6 r3 ry
    cases ep
    exact ⟨o', g, k c1 (Stp.refl _) h1 _ (ro.getD .non)⟩
  · exact q1.elim
/-! ### dicts walked -/
/-- a tuple that stands there is known -/
theorem Holds.know {K : PySem.W.Frag} {S : List Slot} {σ : Sg} {c : Cfg} {b : Addr} {xs : List V} (h : Holds K S σ c) (e : c.H b = some (.tup xs)) : ∃ Z', Z' b = some (.tup xs) ∧ Stp c ⟨Z', c.H, c.F⟩ ∧ Holds K S σ ⟨Z', c.H, c.F⟩ := by
  cases ez : c.Z b with
  | some o =>
    have e2 := h.zh b o ez
    rw [e] at e2
    cases e2
    exact ⟨c.Z, ez, Stp.refl _, h⟩
  | none =>
    have bF : b ∉ c.F := fun m => by
      obtain ⟨o, e1, e2⟩ := h.l.own b m
      rw [e] at e1
      cases e1
      exact e2 _ rfl
    have sm : Same c.Z (upd c.Z b (.tup xs)) := same_upd ez
    refine ⟨upd c.Z b (.tup xs), upd_same, ⟨sm, fun _ _ q _ => q, fun _ o q => ⟨o, q⟩, fun b' o q => ?_, fun _ m => .inl m⟩, ⟨h.l.tr (c' := ⟨upd c.Z b (.tup xs), c.H, c.F⟩) sm fun _ _ => rfl, h.nd, fun a m => ?_, fun b' o q => ?_⟩⟩
    · by_cases hb : b' = b
      · subst hb
        exact .inr (.inr (.inr ⟨xs, e⟩))
      · have q' : upd c.Z b (.tup xs) b' = some o := q
        rw [upd_ne hb] at q'
        exact .inl q'
    · show upd c.Z b (.tup xs) a = none
      rw [upd_ne (show a ≠ b from fun z => bF (z ▸ m))]
      exact h.zf a m
    · have q' : upd c.Z b (.tup xs) b' = some o := q
      by_cases hb : b' = b
      · subst hb
        rw [upd_same] at q'
        cases q'
        exact e
      · rw [upd_ne hb] at q'
        exact h.zh b' o q'
theorem zip_get {α β : Type} {as : List α} {bs : List β} {i : Nat} {a : α} {b : β} (h : (as.zip bs)[i]? = some (a, b)) : as[i]? = some a := by
  rw [List.getElem?_zip_eq_some] at h
  exact h.1
theorem ItOk.dk {K : PySem.W.Frag} {Z0 : Hp} {a : Addr} {o : Obj} {ks : List Key} {vs : List V} (ha : Z0 a = some (.frz o (.dK (ks.zip vs)))) (hl : ks.length = vs.length) : ItOk K Z0 (Itk a o (ks.zip vs)) (ks.map kD) where
  go := fun i c S σ hi sm h => by
    rw [List.length_map] at hi
    refine ⟨⟨h.zh _ _ (sm _ _ ha), by simp; omega⟩, fun x H' y => ?_⟩
    obtain ⟨e1, k, v, e2, e3⟩ := y
    subst e1 e3
    have e4 := zip_get e2
    refine ⟨c, kD k, rfl, by rw [List.getElem?_map, e4]; rfl, Stp.refl _, h, ?_⟩
    cases k with
    | inl i => exact .int i
    | inr x => exact .str x
  stop := fun i c S σ hi sm h => ⟨h.zh _ _ (sm _ _ ha), by rw [List.length_map] at hi; simp; omega⟩
theorem ItOk.dt {K : PySem.W.Frag} {Z0 : Hp} {a : Addr} {o : Obj} {ks : List (List Key)} {vs : List V} (ha : Z0 a = some (.frz o (.dT (ks.zip vs)))) (hl : ks.length = vs.length) : ItOk K Z0 (Itkt a o (ks.zip vs)) (ks.map kTD) where
  go := fun i c S σ hi sm h => by
    rw [List.length_map] at hi
    refine ⟨⟨h.zh _ _ (sm _ _ ha), by simp; omega⟩, fun x H' y => ?_⟩
    obtain ⟨e1, k, v, q, e2, e3, e5⟩ := y
    subst e1 e3
    have e4 := zip_get e2
    obtain ⟨Z', z1, st, h'⟩ := h.know e5
    exact ⟨⟨Z', c.H, c.F⟩, kTD k, rfl, by rw [List.getElem?_map, e4]; rfl, st, h', .tup z1 (RpA.ofKey k)⟩
  stop := fun i c S σ hi sm h => ⟨h.zh _ _ (sm _ _ ha), by rw [List.length_map] at hi; simp; omega⟩
def walkK : D → Option (List D)
  | .dict es => (dicOf (.dict es)).map fun te => te.2.map (·.1)
  | _ => none
def iK (f : EM D) : EM (List D) := eBind f fun d => eOpt (walkK d)
theorem di_keys {tg : Expr} (he : DE X W e fo) : DI X W tg e (iK fo) := by
  refine PI.wk (pi_keys he) fun σ H R q => ?_
  obtain ⟨S, Z, F, h, q⟩ := q
  refine ⟨S, Z, F, h, (Go.bind q).mono fun d S1 c1 s1 h1 q1 x rx => ?_⟩
  obtain ⟨ds, e, k⟩ := Go.opt q1
  cases rx with
  | @dk a o ks vs es r1 r2 r3 =>
    have e' : (dicOf (PyData.dict _)).map (fun te => te.2.map (·.1)) = some ds := e
    rw [dicOf_false] at e'
    have l := r3.length
    have ek : List.map (fun x => x.fst) ((List.map kD ks).zip es) = List.map kD ks := List.map_fst_zip (by rw [List.length_map]; omega)
    have e2 : ds = List.map kD ks := by
      rw [← ek]
      exact (Option.some.inj e').symm
    subst e2
    exact ⟨_, _, rfl, .inl ⟨_, h1.zh _ _ r1, k c1 (Stp.refl _) h1 _ (ItOk.dk r1 (by omega))⟩⟩
  | @dt a o ks vs es r1 r2 r3 =>
    have l := r3.length
    have ek : List.map (fun x => x.fst) ((List.map kTD ks).zip es) = List.map kTD ks := List.map_fst_zip (by rw [List.length_map]; omega)
    have e2 : ds = List.map kTD ks := by
      rw [← ek]
      exact (Option.some.inj e).symm
    subst e2
    exact ⟨_, _, rfl, .inr ⟨_, h1.zh _ _ r1, k c1 (Stp.refl _) h1 _ (ItOk.dt r1 (by omega))⟩⟩
  | _ => cases e
/-- whatever is walked: lists, tuples, dicts by their keys -/
def walkA : D → Option (List D)
  | .list ds => some ds
  | .tuple ds => some ds
  | .dict es => walkK (.dict es)
  | _ => none
def iA (f : EM D) : EM (List D) := eBind f fun d => eOpt (walkA d)
theorem di_any {tg : Expr} (he : DE X W e fo) : DI X W tg e (iA fo) := by
  refine ⟨fun pins s σ H R I q => ?_⟩
  obtain ⟨S, Z, F, h, q⟩ := q
  unfold iA eBind at q
  cases ef : fo S with
  | bad => rw [ef] at q; exact q.elim
  | ex y S' =>
    rw [ef] at q
    refine (di_list he).run pins s σ H R I ⟨S, Z, F, h, ?_⟩
    unfold iL eBind
    rw [ef]
    exact q
  | ok d S' =>
    rw [ef] at q
    cases d with
    | list ds =>
      refine (di_list he).run pins s σ H R I ⟨S, Z, F, h, ?_⟩
      unfold iL eBind
      rw [ef]
      exact q
    | tuple ds =>
      refine (di_tup he).run pins s σ H R I ⟨S, Z, F, h, ?_⟩
      unfold iT eBind
      rw [ef]
      exact q
    | dict ds =>
      refine (di_keys he).run pins s σ H R I ⟨S, Z, F, h, ?_⟩
      unfold iK eBind
      rw [ef]
      exact q
    | _ => exact q.elim
end
end FW

/-! FwN: any and all of what is flat. -/
namespace FW
open PySem PySem.Spec L2
open PyProof.Rows hiding St
inductive TrV : V → Bool → Prop
  | bl (b : Bool) : TrV (.bl b) b
  | int (i : Int) : TrV (.int i) (i != 0)
inductive TrA : List V → List Bool → Prop
  | nil : TrA [] []
  | cons {v : V} {b : Bool} {vs : List V} {bs : List Bool} : TrV v b → TrA vs bs → TrA (v :: vs) (b :: bs)
theorem TrA.get : ∀ {vs : List V} {bs : List Bool} {i : Nat} {v : V}, TrA vs bs → vs[i]? = some v → ∃ b, bs[i]? = some b ∧ TrV v b
  | _, _, _, _, .nil, e => by simp at e
  | _, _, 0, _, .cons h _, e => by simp at e; subst e; exact ⟨_, rfl, h⟩
  | _, _, i + 1, _, .cons _ t, e => by
    obtain ⟨b, e1, e2⟩ := TrA.get t (by simpa using e)
    exact ⟨b, by simpa using e1, e2⟩
theorem TrA.length : ∀ {vs : List V} {bs : List Bool}, TrA vs bs → vs.length = bs.length
  | _, _, .nil => rfl
  | _, _, .cons _ t => by simp [TrA.length t]
theorem truth_flat {prog : Program} {w : World} {A : Around} {vs : List V} {bs : List Bool} {its : List Value} (r : Vals vs its) (t : TrA vs bs) :
    TruthOf prog w A (fun i v => its.toArray[i]? = some v) (fun i => bs.getD i false) := fun i v s Q E hv hq => by
  have hv' : its[i]? = some v := by simpa using hv
  have hl := r.length
  obtain ⟨hi, _⟩ := List.getElem?_eq_some_iff.mp hv'
  obtain ⟨u, hu, ru⟩ := r.get (i := i) (x := vs[i]'(by omega)) (List.getElem?_eq_getElem (by omega))
  rw [hv'] at hu
  cases hu
  obtain ⟨b, hb, tb⟩ := t.get (List.getElem?_eq_getElem (show i < vs.length by omega))
  have hg : bs.getD i false = b := by rw [List.getD_eq_getElem?_getD, hb] <;> rfl
  have hq' : Q (bs.getD i false) s := hq
  rw [hg] at hq'
  generalize vs[i]'(by omega) = x at ru tb
  cases tb with
  | bl b =>
    cases (show v = Value.bool b from ru)
    exact wpAny_truthy_bool hq'
  | int n =>
    obtain ⟨t, rfl⟩ := ru
    exact P.truthy_int hq'
def rAnyV (K : PySem.W.Frag) (al : Bool) : List V → Hp → VK → Prop := fun vs H Q => ∃ (a : Addr) (xs : List V) (bs : List Bool), vs = [V.ref a] ∧ (SqL K H a xs ∨ SqT K H a xs) ∧ TrA xs bs ∧ Q (.bl (if al then bs.all id else bs.any id)) H
section
variable {X : Cx} {W : WX}
theorem iter_anyT {prog : Program} {w : World} {A : Around} {E : Value → Shared → Prop} {s : Shared} {l : Addr} {items : Array Value} {Q : Value → Shared → Prop} (hl : s.heap.IsTuple l items)
    (h : ∀ s₂ : Shared, s₂ = { s with heap := s.heap.push { cls := .type "tuple_iterator", data := .fields #[.ref l, .int 0 0] } } →
      (s₂.heap.IsTupleIter s.heap.objs.size l 0 ∧ s₂.heap.IsTuple l items) → l ≠ s.heap.objs.size → Q (.ref s.heap.objs.size) s₂) : wpAny (model prog w) A (pyIter (.ref l)) Q E s := by
  have hlt : l < s.heap.objs.size := by obtain ⟨_, e, _⟩ := hl; exact Heap.lt_size e
  exact wpAny_pyIter_tuple hl (h _ rfl ⟨⟨_, Heap.get?_push_size _ rfl, rfl, rfl⟩, hl.push _⟩ (Nat.ne_of_lt hlt))
theorem cr_anyV (hc : X.calm = true) : CallR X (.builtin "any") (rAnyV X.K false) := by
  intro pins s σ H vs us Q I r h
  obtain ⟨a, xs, bs, rfl, hs, t, q⟩ := h
  rw [Vals.ref1 r]
  rcases hs with hs | hs
  · obtain ⟨its, rv, hl, _⟩ := I.list hs
    refine call_any_walk (iter_any hl.isList fun s₂ e2 st hne => ?_)
    subst e2
    refine ⟨_, _, _, _, _, _, _, rfl, Walks.list (A := X.A.in1) (I.ok.hd hc) _ a hne its.toArray, st, truth_flat rv t, fun h' tk hk => ?_⟩
    refine ⟨.bl _, H, I.kept fun b o eo => hk b o (fun hmem => ?_) (Heap.get?_push_of_some _ eo), ?_, q⟩
    · rcases List.mem_cons.mp hmem with e1 | hmem
      · exact absurd (e1 ▸ Heap.lt_size eo) (Nat.lt_irrefl _)
      · cases hmem
    · show Value.bool _ = Value.bool _
      rw [if_neg Bool.false_ne_true, ← L2.any_range, List.size_toArray, ← rv.length, t.length]
  · obtain ⟨its, rv, hl, _⟩ := I.tuple hs
    refine call_any_walk (iter_anyT hl fun s₂ e2 st hne => ?_)
    subst e2
    refine ⟨_, _, _, _, _, _, _, rfl, Walks.tuple (A := X.A.in1) (I.ok.hd hc) _ a hne its.toArray, st, truth_flat rv t, fun h' tk hk => ?_⟩
    refine ⟨.bl _, H, I.kept fun b o eo => hk b o (fun hmem => ?_) (Heap.get?_push_of_some _ eo), ?_, q⟩
    · rcases List.mem_cons.mp hmem with e1 | hmem
      · exact absurd (e1 ▸ Heap.lt_size eo) (Nat.lt_irrefl _)
      · cases hmem
    · show Value.bool _ = Value.bool _
      rw [if_neg Bool.false_ne_true, ← L2.any_range, List.size_toArray, ← rv.length, t.length]
theorem cr_allV (hc : X.calm = true) : CallR X (.builtin "all") (rAnyV X.K true) := by
  intro pins s σ H vs us Q I r h
  obtain ⟨a, xs, bs, rfl, hs, t, q⟩ := h
  rw [Vals.ref1 r]
  rcases hs with hs | hs
  · obtain ⟨its, rv, hl, _⟩ := I.list hs
    refine call_all_walk (iter_any hl.isList fun s₂ e2 st hne => ?_)
    subst e2
    refine ⟨_, _, _, _, _, _, _, rfl, Walks.list (A := X.A.in1) (I.ok.hd hc) _ a hne its.toArray, st, truth_flat rv t, fun h' tk hk => ?_⟩
    refine ⟨.bl _, H, I.kept fun b o eo => hk b o (fun hmem => ?_) (Heap.get?_push_of_some _ eo), ?_, q⟩
    · rcases List.mem_cons.mp hmem with e1 | hmem
      · exact absurd (e1 ▸ Heap.lt_size eo) (Nat.lt_irrefl _)
      · cases hmem
    · show Value.bool _ = Value.bool _
      rw [if_pos rfl, ← L2.all_range, List.size_toArray, ← rv.length, t.length]
  · obtain ⟨its, rv, hl, _⟩ := I.tuple hs
    refine call_all_walk (iter_anyT hl fun s₂ e2 st hne => ?_)
    subst e2
    refine ⟨_, _, _, _, _, _, _, rfl, Walks.tuple (A := X.A.in1) (I.ok.hd hc) _ a hne its.toArray, st, truth_flat rv t, fun h' tk hk => ?_⟩
    refine ⟨.bl _, H, I.kept fun b o eo => hk b o (fun hmem => ?_) (Heap.get?_push_of_some _ eo), ?_, q⟩
    · rcases List.mem_cons.mp hmem with e1 | hmem
      · exact absurd (e1 ▸ Heap.lt_size eo) (Nat.lt_irrefl _)
      · cases hmem
    · show Value.bool _ = Value.bool _
      rw [if_pos rfl, ← L2.all_range, List.size_toArray, ← rv.length, t.length]
/-- what is flat as truth values -/
def truD : D → Option Bool
  | .bool b => some b
  | .int i => some (i != 0)
  | _ => none
def truA : List D → Option (List Bool)
  | [] => some []
  | d :: ds => (truD d).bind fun b => (truA ds).map (b :: ·)
theorem truA_ok {K : PySem.W.Frag} {Z : Hp} : ∀ {ds : List D} {vs : List V} {bs : List Bool}, truA ds = some bs → RpA K Z vs ds → TrA vs bs
  | [], _, _, e, .nil => by cases e; exact .nil
  | d :: ds, _, _, e, .cons r rs => by
    obtain ⟨b, e1, e2⟩ := Option.bind_eq_some_iff.mp e
    obtain ⟨bs, e3, e4⟩ := Option.map_eq_some_iff.mp e2
    subst e4
    refine .cons ?_ (truA_ok e3 rs)
    unfold truD at e1
    split at e1
    · cases e1; cases r; exact .bl _
    · cases e1; cases r; exact .int _
    · cases e1
def anyV (al : Bool) : List D → Option D
  | [d] => (itemsD d).bind fun ds => (truA ds).map fun bs => .bool (if al then bs.all id else bs.any id)
  | _ => none
theorem anyV_rd {al : Bool} (vs : List V) (ds : List D) (d : D) (S : List Slot) (σ : Sg) (c : Cfg) (Q : VK) (e : anyV al ds = some d) (hh : Holds X.K S σ c) (rs : LoA X.K c vs ds) (q : ∀ c' v, Stp c c' → Holds X.K S σ c' → Rp X.K c'.Z v d → Q v c'.H) : rAnyV X.K al vs c.H Q := by
  unfold anyV at e
  split at e
  · obtain ⟨es, e1, e2⟩ := Option.bind_eq_some_iff.mp e
    obtain ⟨bs, e3, e4⟩ := Option.map_eq_some_iff.mp e2
    subst e4
    obtain ⟨v, rfl, r⟩ := rs.one
    unfold itemsD at e1
    split at e1
    · cases e1
      obtain ⟨a, xs, rfl, a1, r1⟩ := r.lstI hh.zh
      exact ⟨a, xs, bs, rfl, .inl (SqL.of a1), truA_ok e3 r1, q c _ (Stp.refl _) hh (.bl _)⟩
    · cases e1
      obtain ⟨a, xs, rfl, a1, r1⟩ := r.tupI
      exact ⟨a, xs, bs, rfl, .inr (sameT hh.zh a1), truA_ok e3 r1, q c _ (Stp.refl _) hh (.bl _)⟩
    · cases e1
  · cases e
theorem cd_anyV (hc : X.calm = true) : CallD X W (.builtin "any") (anyV false) := ⟨_, cr_anyV hc, anyV_rd⟩
theorem cd_allV (hc : X.calm = true) : CallD X W (.builtin "all") (anyV true) := ⟨_, cr_allV hc, anyV_rd⟩
end
end FW

/-! FwO: instances: attributes, methods, making. -/
namespace FW
open PySem PySem.Spec L2
open PyProof.Rows hiding St
def fldD (cls f : Str) : D → Option D
  | .dict ((.list [], .str c) :: es) => if c = cls then esGet es (.str f) else none
  | _ => none
/-- an instance of the class without an attribute m -/
def isOb (cls m : Str) : D → Bool
  | .dict ((.list [], .str c) :: es) => decide (c = cls) && (esGet es (.str m)).isNone
  | _ => false
theorem fs_get {K : PySem.W.Frag} {Z : Hp} (f : Str) : ∀ {ns : List Str} {vs : List V} {ds : List D}, ns.length = ds.length → RpA K Z vs ds → RpO K Z ((ns.zip vs).lookup f) (esGet ((ns.map PyData.str).zip ds) (.str f))
  | [], _, _, _, _ => by simp [esGet]; exact .no
  | _ :: _, _, [], h, _ => by simp at h
  | n :: ns, _, d :: ds, h, .cons (v := v) (vs := vs) r rs => by
    have ih := fs_get f (ns := ns) (ds := ds) (by simpa using h) rs
    rw [List.zip_cons_cons, List.map_cons, List.zip_cons_cons]
    unfold esGet at ih ⊢
    by_cases e : n = f
    · subst e
      rw [List.lookup_cons_self, List.find?_cons_of_pos (by simp [sameK, sameK1])]
      exact .so r
    · have e1 : (f == n) = false := by
        rw [beq_eq_false_iff_ne]
        exact fun z => e z.symm
      rw [List.lookup_cons, e1, List.find?_cons_of_neg (by simp [sameK, sameK1, e])]
      exact ih
theorem Rp.obI {K : PySem.W.Frag} {Z : Hp} {v : V} {c : Str} {es : List (D × D)} (h : Rp K Z v (.dict ((.list [], .str c) :: es))) :
    ∃ (a dx : Addr) (ns : List Str) (vs : List V) (ds : List D), v = .ref a ∧ es = (ns.map PyData.str).zip ds ∧ Z a = some (.ins (He.ga K c) dx (ns.zip vs)) ∧ Z dx = some (.own a) ∧ ns.length = ds.length ∧ RpA K Z vs ds := by
  generalize ed : PyData.dict ((.list [], .str c) :: es) = d at h
  cases h with
  | @dk a o ks vs es' h1 h2 h3 =>
    exfalso
    injection ed with ed
    cases ks with
    | nil => simp at ed
    | cons k ks =>
      cases es' with
      | nil => simp at ed
      | cons e es' =>
        rw [List.map_cons, List.zip_cons_cons] at ed
        injection ed with e1 e2
        injection e1 with e3 e4
        cases k <;> cases e3
  | dt h1 h2 h3 =>
    exfalso
    injection ed with ed
    injection ed with e1 e2
    injection e1 with e3 e4
    injection e3 with e5
    cases e5
  | @ob a dx cls ns vs ds h1 h2 h3 h4 =>
    unfold obD at ed
    injection ed with ed
    injection ed with e1 e2
    injection e1 with e3 e4
    injection e4 with e5
    subst e5 e2
    exact ⟨_, _, _, _, _, rfl, rfl, h1, h2, h3, h4⟩
  | _ => cases ed
theorem fldD_some {cls f : Str} {d x : D} (e : fldD cls f d = some x) : ∃ es, d = .dict ((.list [], .str cls) :: es) ∧ esGet es (.str f) = some x := by
  unfold fldD at e
  split at e
  · split at e
    · rename_i c es h
      subst h
      exact ⟨es, rfl, e⟩
    · cases e
  · cases e
theorem isOb_some {cls m : Str} {d : D} (e : isOb cls m d = true) : ∃ es, d = .dict ((.list [], .str cls) :: es) ∧ esGet es (.str m) = none := by
  unfold isOb at e
  split at e
  · rename_i c es
    rw [Bool.and_eq_true] at e
    have h := of_decide_eq_true e.1
    subst h
    exact ⟨es, rfl, Option.isNone_iff_eq_none.mp e.2⟩
  · cases e
section
variable {X : Cx} {W : WX} {pos apos : Pos} {e o : Expr} {es : List Expr} {fe fo : EM D} {fa : EM (List D)}
/-- e.f -/
theorem de_fld {cls f : Str} (c : Cls X.K (He.ga X.K cls)) (n : NoAttr X.K (He.ga X.K cls) f) (he : DE X W e fe) (hb : attributeBase e f X.env (eval e X.env) = eval e X.env := by rfl) : DE X W (.Attribute e f pos) (eUn (fldD cls f) fe) := by
  refine PE.wk (pe_fld he hb) fun σ H Q q => ?_
  obtain ⟨S, Z, F, h, q⟩ := q
  refine ⟨S, Z, F, h, (Go.bind q).mono fun a S1 c1 s1 h1 q1 v rv => ?_⟩
  obtain ⟨d, e1, k⟩ := Go.opt q1
  obtain ⟨es, rfl, e2⟩ := fldD_some e1
  obtain ⟨p, dx, ns, vs, ds, rfl, rfl, z1, z2, hl, r⟩ := rv.obI
  have g := fs_get f hl r
  rw [e2] at g
  obtain ⟨u, e3, ru⟩ := g.some
  exact ⟨p, _, dx, _, u, rfl, h1.zh _ _ z1, c, n, e3, k c1 (Stp.refl _) h1 u ru⟩
/-- a method as it may be called -/
def CalM (P : Program) (w : World) (K : PySem.W.Frag) (mg : Str → Option Value) (base : Heap) (cls m : Str) (ps : List Str) (k : Nat) (sp : Sp) : Prop :=
  ∃ f fd, FnOk P w K mg base CX0 k f fd ps sp ∧ Cls K (He.ga K cls) ∧ Meth K (He.ga K cls) m f ∧ L2.Binds K fd ps []
/-- o.m(..) -/
def eMeth (cls m : Str) (k : Nat) (g : List D → Rs) (fo : EM D) (fa : EM (List D)) : EM D := eBind fo fun d => if isOb cls m d then eBind fa fun ds => if ds.length = k then rs0 (g (d :: ds)) else fun _ => .bad else fun _ => .bad
theorem meth_rd {cls m : Str} {k : Nat} {g : List D → Rs} (σ : Sg) (H : Hp) (Q : VK) (q : tD (gx X W) (eMeth cls m k g fo fa) σ H Q) : tMeth (He.ga X.K cls) m (spD0 X.K (k + 1) g) [] E0 (tD (gx X W) fo) (tDs (gx X W) fa) σ H Q := by
  obtain ⟨S, Z, F, h, q⟩ := q
  refine ⟨S, Z, F, h, (Go.bind q).mono fun d S1 c1 s1 h1 q1 v rv => ?_⟩
  split at q1
  rotate_left
  · exact q1.elim
  rename_i ho
  obtain ⟨es, rfl, e2⟩ := isOb_some ho
  obtain ⟨p, dx, ns, vs, ds, rfl, rfl, z1, z2, hl, r⟩ := rv.obI
  have gg := fs_get m hl r
  rw [e2] at gg
  have e3 : (ns.zip vs).lookup m = none := by
    cases q : (ns.zip vs).lookup m with
    | none => rfl
    | some u =>
      rw [q] at gg
      cases gg
  refine ⟨p, dx, _, rfl, h1.zh _ _ z1, e3, S1, c1.Z, c1.F, h1, (Go.bind q1).mono fun as S2 c2 s2 h2 q2 us ru => ?_⟩
  by_cases hk : as.length = k
  · rw [if_pos hk] at q2
    refine ⟨_ :: as, c2.Z, by simp [hk], h2.zh, by rw [List.append_nil]; exact .cons (rv.mono s2.z) ru, ?_⟩
    split
    · rename_i d' eg
      rw [eg] at q2
      intro c' v st z rv
      obtain ⟨s3, h3⟩ := h2.afterC st z
      exact q2 _ s3 h3 v rv
    · rename_i hne
      cases eg : g (PyData.dict ((PyData.list [], PyData.str cls) :: (List.map PyData.str ns).zip ds) :: as) with
      | ok d' => exact absurd eg (hne d')
      | ex y => rw [eg] at q2; exact q2.elim
      | bad => rw [eg] at q2; exact q2.elim
  · rw [if_neg hk] at q2
    exact q2.elim
theorem de_meth {cls m : Str} {kk k : Nat} {ps : List Str} {g : List D → Rs} {pl : Sem Bool} (C : CalM X.prog X.w X.K X.mg X.base cls m ps kk (spD0 X.K (k + 1) g)) (hr : Room kk X.A) (ho : DE X W o fo) (ha : DA X W (e :: es) fa)
    (hst : starEach (e :: es) X.env = (false, eval e X.env) :: starEach es X.env := by rfl) (hpl : (backTo pos (starEach es X.env)).any (·.1) = false := by rfl)
    (ht : eval (.Call (.Attribute o m apos) (e :: es) [] pos) X.env = (do
      let ov ← eval o X.env
      standAt apos.atName
      let (f, first) ← holding [ov] (getMethod ov m pl)
      callWith pos f first (backTo pos (starEach (e :: es) X.env)) (backToKw pos (keywordEach [] X.env))) := by rfl) : DE X W (.Call (.Attribute o m apos) (e :: es) [] pos) (eMeth cls m k g fo fa) := by
  obtain ⟨f, fd, F, c, hm, hb⟩ := C
  exact PE.wk (pe_meth (E := E0) ho c hm F hr hb .nil pass0 ha hst hpl ht) meth_rd
theorem de_meth0 {cls m : Str} {kk : Nat} {ps : List Str} {g : List D → Rs} {pl : Sem Bool} (C : CalM X.prog X.w X.K X.mg X.base cls m ps kk (spD0 X.K (0 + 1) g)) (hr : Room kk X.A) (ho : DE X W o fo)
    (ht : eval (.Call (.Attribute o m apos) [] [] pos) X.env = (do
      let ov ← eval o X.env
      standAt apos.atName
      let (f, first) ← holding [ov] (getMethod ov m pl)
      callWith pos f first (backTo pos (starEach [] X.env)) (backToKw pos (keywordEach [] X.env))) := by rfl) : DE X W (.Call (.Attribute o m apos) [] [] pos) (eMeth cls m 0 g fo aNil) := by
  obtain ⟨f, fd, F, c, hm, hb⟩ := C
  refine PE.wk (pe_meth0 (E := E0) ho c hm F hr hb .nil pass0 ht) fun σ H Q q => ?_
  have q2 := meth_rd σ H Q q
  obtain ⟨S, Z, F, h, q2⟩ := q2
  refine ⟨S, Z, F, h, q2.mono fun d S1 c1 s1 h1 q3 v rv => ?_⟩
  obtain ⟨p, dx, fs, e1, e2, e3, q4⟩ := q3 v rv
  refine ⟨p, dx, fs, e1, e2, e3, ?_⟩
  obtain ⟨S2, Z2, F2, h2, q5⟩ := q4
  exact q5 _ (Stp.refl _) h2 [] .nil
/-! ### an instance while it is made -/
theorem Holds.objAt {K : PySem.W.Frag} {S : List Slot} {σ : Sg} {c : Cfg} {i : Nat} {a dx : Addr} {cls : Str} {ns : List Str} {ds : List D} (h : Holds K S σ c) (e : S[i]? = some (.obj a dx cls ns ds)) :
    ∃ vs, σ[i]? = some (some (V.ref a)) ∧ c.H a = some (.ins (He.ga K cls) dx (ns.zip vs)) ∧ c.H dx = some (.own a) ∧ ns.length = ds.length ∧ RpA K c.Z vs ds ∧ a ∈ c.F ∧ dx ∈ c.F ∧ a ≠ dx ∧
      ∀ ns' ds' vs', ns'.length = ds'.length → RpA K c.Z vs' ds' → Stp c ⟨c.Z, upd c.H a (.ins (He.ga K cls) dx (ns'.zip vs')), c.F⟩ ∧ Holds K (S.set i (.obj a dx cls ns' ds')) σ ⟨c.Z, upd c.H a (.ins (He.ga K cls) dx (ns'.zip vs')), c.F⟩ := by
  obtain ⟨A, Fi, B, x, e1, e2, ⟨vs, e3, e4, e5, e6, e7, e8⟩, up⟩ := h.l.at e
  subst e3 e4
  have aF : a ∈ c.F := by rw [e1]; simp
  have dF : dx ∈ c.F := by rw [e1]; simp
  have nd := h.nd
  have ne : a ≠ dx := by
    rw [e1] at nd
    rintro rfl
    simp only [List.nodup_append, List.nodup_cons, List.mem_append, List.mem_cons] at nd
    grind
  refine ⟨vs, e2, e5, e6, e7, e8, aF, dF, ne, fun ns' ds' vs' hl r => ⟨⟨Same.refl _, fun b o q hn => (upd_ne (show b ≠ a from fun z => hn (z ▸ aF))).trans q, fun b o q => ?_, fun b o q => .inl q, fun b m => .inl m⟩, ⟨?_, h.nd, h.zf, fun b o q => ?_⟩⟩⟩
  · by_cases hb : b = a
    · subst hb
      exact ⟨_, upd_same⟩
    · exact ⟨o, (upd_ne hb).trans q⟩
  · have q := up ⟨c.Z, upd c.H a (.ins (He.ga K cls) dx (ns'.zip vs')), c.F⟩ (.obj a dx cls ns' ds') (some (.ref a)) [a, dx] (Same.refl _) (fun b m => upd_ne (show b ≠ a by
      rintro rfl
      rw [e1] at nd
      simp only [List.nodup_append, List.nodup_cons, List.mem_append, List.mem_cons] at nd m
      grind)) ⟨vs', rfl, rfl, upd_same, (upd_ne (Ne.symm ne)).trans e6, hl, r⟩
    rw [list_set_self e2] at q
    show HoldsL K ⟨c.Z, upd c.H a (.ins (He.ga K cls) dx (ns'.zip vs')), c.F⟩ (S.set i (.obj a dx cls ns' ds')) σ c.F
    have e1' := e1
    generalize c.F = FF at e1' q ⊢
    rw [e1']
    rw [e1'] at q
    exact q
  · have nb : b ≠ a := by
      rintro rfl
      have q' : c.Z b = some o := q
      rw [h.zf b aF] at q'
      cases q'
    exact (upd_ne nb).trans (h.zh b o q)
/-- a new attribute -/
def putO (f : Str) (d : D) : Slot → Option Slot
  | .obj a dx cls ns ds => if ns.contains f || decide (1000 ≤ ns.length) then none else some (.obj a dx cls (ns ++ [f]) (ds ++ [d]))
  | _ => none
theorem putF_zip (f : Str) (y : V) : ∀ {ns : List Str} {vs : List V}, ns.length = vs.length → ns.contains f = false → putF f y (ns.zip vs) = (ns ++ [f]).zip (vs ++ [y])
  | [], [], _, _ => rfl
  | [], _ :: _, h, _ => by simp at h
  | _ :: _, [], h, _ => by simp at h
  | n :: ns, v :: vs, h, hc => by
    rw [List.contains_cons, Bool.or_eq_false_iff] at hc
    have ih := putF_zip f y (ns := ns) (vs := vs) (by simpa using h) hc.2
    rw [List.zip_cons_cons]
    have ne : ¬ n = f := fun z => by
      rw [z] at hc
      simp at hc
    show (if n = f then (n, y) :: ns.zip vs else (n, v) :: putF f y (ns.zip vs)) = _
    rw [if_neg ne, ih]
    rfl
theorem put_rd {S : List Slot} {σ : Sg} {c : Cfg} {i : Nat} {f cls0 : Str} {d : D} {s' : Slot} {y : V} (cl : Cls X.K (He.ga X.K cls0)) (na : NoAttr X.K (He.ga X.K cls0) f) (h : Holds X.K S σ c) (hc : ∀ a dx cls ns ds, S[i]? = some (.obj a dx cls ns ds) → cls = cls0)
    (e : ((S[i]?).bind (putO f d)) = some s') (ry : Rp X.K c.Z y d) :
    ∃ a C dx fs, σ[i]? = some (some (V.ref a)) ∧ c.H a = some (.ins C dx fs) ∧ Cls X.K C ∧ NoAttr X.K C f ∧ fs.length < 1000 ∧ ∃ c', Stp c c' ∧ Holds X.K (S.set i s') σ c' ∧ c'.H = upd c.H a (.ins C dx (putF f y fs)) := by
  obtain ⟨s, e1, e2⟩ := Option.bind_eq_some_iff.mp e
  unfold putO at e2
  split at e2
  · rename_i a dx cls ns ds
    have hcl := hc _ _ _ _ _ e1
    subst hcl
    split at e2
    · cases e2
    · rename_i hg
      rw [Bool.or_eq_true, not_or, decide_eq_true_iff] at hg
      cases e2
      obtain ⟨vs, e3, e4, e5, e6, e7, _, _, _, back⟩ := h.objAt e1
      have hl := e7.length
      obtain ⟨st, hh⟩ := back (ns ++ [f]) (ds ++ [d]) (vs ++ [y]) (by simp [e6]) (e7.append (.cons ry .nil))
      refine ⟨a, _, dx, _, e3, e4, cl, na, ?_, _, st, hh, ?_⟩
      · rw [List.length_zip]
        omega
      · rw [putF_zip f y (by omega) (by simpa using hg.1)]
  · cases e2
def clsAt (cls0 : Str) (S : List Slot) (i : Nat) : Bool := match S[i]? with
  | some (.obj _ _ cls _ _) => decide (cls = cls0)
  | _ => true
theorem clsAt_ok {cls0 : Str} {S : List Slot} {i : Nat} (h : clsAt cls0 S i = true) : ∀ a dx cls ns ds, S[i]? = some (.obj a dx cls ns ds) → cls = cls0 := by
  intro a dx cls ns ds e
  unfold clsAt at h
  rw [e] at h
  exact of_decide_eq_true h
/-- self.f = e -/
def sFldSet (i : Nat) (cls f : Str) (fe : EM D) : SM := sOf fe fun d S => if clsAt cls S i then (match (S[i]?).bind (putO f d) with
  | some s' => .nx (S.set i s')
  | none => .bad) else .bad
variable {x : Str} {p : Pos}
theorem ds_fld (i : Nat) {cls f : Str} {apos' : Pos} {value : Expr} (cl : Cls X.K (He.ga X.K cls)) (na : NoAttr X.K (He.ga X.K cls) f) (hv : DE X W value fe) (hN : X.N[i]? = some x := by rfl) (hvis : Vis X.env.scope x := by first | exact Or.inl rfl | exact Or.inr (Or.inl rfl) | exact Or.inr (Or.inr rfl)) (hd : (x == ("__debug__" : Str)) = false := by decide) (hcd : (x == ("__classdict__" : Str)) = false := by decide)
    (hs : swapsWith value (some (.Attribute (.Name x p) f apos')) pos.line X.env = pure false := by rfl) : DS X W (.Assign [.Attribute (.Name x p) f apos'] value pos) (sFldSet i cls f fe) := by
  refine PS.wk (ps_fld (pe_var hN hvis hd hcd) hv hs) fun Q σ H q => ?_
  obtain ⟨S, Z, F, h, q⟩ := q
  refine ⟨S, Z, F, h, Go.toS q fun d S1 c1 s1 h1 q1 y ry => ?_⟩
  split at q1
  rotate_left
  · exact q1.elim
  rename_i hc
  split at q1
  · rename_i s' e1
    obtain ⟨a, C, dx, fs, e2, e3, e4, e5, e6, c', st, hh, e7⟩ := put_rd cl na h1 (clsAt_ok hc) e1 ry
    refine ⟨.ref a, e2, a, C, dx, fs, rfl, e3, e4, e5, e6, ?_⟩
    rw [← e7]
    exact q1 _ c' st hh
  · exact q1.elim
/-- .. as a target -/
def gAttr (K : PySem.W.Frag) (ta : TE) (f : Str) : TG := fun v σ H Q => ta σ H fun x H1 => ∃ a C dx fs, x = .ref a ∧ H1 a = some (.ins C dx fs) ∧ Cls K C ∧ NoAttr K C f ∧ fs.length < 1000 ∧ Q σ (upd H1 a (.ins C dx (putF f v fs)))
theorem pg_fld {f : Str} {ta : TE} (ha : PE X o ta) : PG X (.Attribute o f pos) (gAttr X.K ta f) := by
  refine ⟨fun pins s σ H v u Q I r h => ?_⟩
  refine PySem.W.kas_attr (thn (ha.run pins s σ H _ I h) fun ov s1 ⟨x, H1, I1, rx, a, C, dx, fs, ex, ea, c, n, l, q⟩ => ?_)
  subst ex
  obtain rfl : ov = Value.ref a := rx
  exact setattr_ok I1 ea c n l r fun s2 I2 => ⟨σ, _, I2, q⟩
def gFld (i : Nat) (cls f : Str) : Tg := fun d S => if clsAt cls S i then ((S[i]?).bind (putO f d)).map fun s' => S.set i s' else none
theorem dg_fld (i : Nat) {cls f : Str} (cl : Cls X.K (He.ga X.K cls)) (na : NoAttr X.K (He.ga X.K cls) f) (hN : X.N[i]? = some x := by rfl) (hvis : Vis X.env.scope x := by first | exact Or.inl rfl | exact Or.inr (Or.inl rfl) | exact Or.inr (Or.inr rfl)) (hd : (x == ("__debug__" : Str)) = false := by decide) (hcd : (x == ("__classdict__" : Str)) = false := by decide) :
    DG X W (.Attribute (.Name x p) f pos) [] (gFld i cls f) := by
  refine PG.wk (pg_fld (pe_var hN hvis hd hcd)) fun v σ H Q q => ?_
  obtain ⟨S, Z, F, d, S', h, rd, e, q⟩ := q
  unfold gFld at e
  split at e
  rotate_left
  · cases e
  rename_i hc
  obtain ⟨s', e1, e8⟩ := Option.map_eq_some_iff.mp e
  subst e8
  obtain ⟨a, C, dx, fs, e2, e3, e4, e5, e6, c', st, hh, e7⟩ := put_rd cl na h (clsAt_ok hc) e1 rd
  refine ⟨.ref a, e2, a, C, dx, fs, rfl, e3, e4, e5, e6, ?_⟩
  have q2 := q σ c' st hh (Only.refl _ _)
  rw [e7] at q2
  exact q2
/-- a method of the instance while it is made; a number comes back -/
def eMethO (i : Nat) (cls m : Str) (k : Nat) (g : List D → Rs) (fa : EM (List D)) : EM D := fun S0 => match S0[i]? with
  | some (.obj _ _ c ns _) => if c = cls ∧ ns.contains m = false then eBind fa (fun as S => match S[i]? with
    | some (.obj _ _ c ns ds) => if c = cls ∧ as.length = k then (match g (obD c ns ds :: as) with
      | .ok (.int n) => .ok (.int n) S
      | _ => .bad) else .bad
    | _ => .bad) S0 else .bad
  | _ => .bad
theorem zip_lookup_none {m : Str} : ∀ {ns : List Str} {vs : List V}, ns.contains m = false → (ns.zip vs).lookup m = none
  | [], _, _ => rfl
  | _ :: _, [], _ => rfl
  | n :: ns, v :: vs, h => by
    rw [List.contains_cons, Bool.or_eq_false_iff] at h
    rw [List.zip_cons_cons, List.lookup_cons, h.1]
    exact zip_lookup_none h.2
theorem de_methO (i : Nat) {cls m : Str} {kk k : Nat} {ps : List Str} {g : List D → Rs} {pl : Sem Bool} (C : CalM X.prog X.w X.K X.mg X.base cls m ps kk (spD0 X.K (k + 1) g)) (hr : Room kk X.A) (ha : DA X W (e :: es) fa)
    (hN : X.N[i]? = some x := by rfl) (hvis : Vis X.env.scope x := by first | exact Or.inl rfl | exact Or.inr (Or.inl rfl) | exact Or.inr (Or.inr rfl)) (hd : (x == ("__debug__" : Str)) = false := by decide) (hcd : (x == ("__classdict__" : Str)) = false := by decide)
    (hst : starEach (e :: es) X.env = (false, eval e X.env) :: starEach es X.env := by rfl) (hpl : (backTo pos (starEach es X.env)).any (·.1) = false := by rfl)
    (ht : eval (.Call (.Attribute (.Name x p) m apos) (e :: es) [] pos) X.env = (do
      let ov ← eval (.Name x p) X.env
      standAt apos.atName
      let (f, first) ← holding [ov] (getMethod ov m pl)
      callWith pos f first (backTo pos (starEach (e :: es) X.env)) (backToKw pos (keywordEach [] X.env))) := by rfl) : DE X W (.Call (.Attribute (.Name x p) m apos) (e :: es) [] pos) (eMethO i cls m k g fa) := by
  obtain ⟨f, fd, FF, c, hm, hb⟩ := C
  refine PE.wk (pe_meth (E := E0) (pe_var hN hvis hd hcd) c hm FF hr hb .nil pass0 ha hst hpl ht) fun σ H Q q => ?_
  obtain ⟨S, Z, F, h, q⟩ := q
  unfold eMethO at q
  split at q
  rotate_left
  · exact q.elim
  rename_i a dx c0 ns ds e0
  split at q
  rotate_left
  · exact q.elim
  rename_i hc
  obtain ⟨rfl, hc2⟩ := hc
  obtain ⟨vs, e2, e3, e4, e5, e6, _⟩ := h.objAt e0
  refine ⟨.ref a, e2, a, dx, _, rfl, e3, zip_lookup_none hc2, S, Z, F, h, (Go.bind q).mono fun as S2 c2 s2 h2 q2 us ru => ?_⟩
  split at q2
  rotate_left
  · exact q2.elim
  rename_i a2 dx2 c3 ns2 ds2 e7
  split at q2
  rotate_left
  · exact q2.elim
  rename_i hk
  obtain ⟨rfl, hk⟩ := hk
  obtain ⟨vs2, e8, e9, e10, e11, e12, aF, dF, ne, _⟩ := h2.objAt e7
  rw [e2] at e8
  cases e8
  have za : c2.Z a = none := h2.zf a aF
  have zd : c2.Z dx2 = none := h2.zf dx2 dF
  have sm1 : Same c2.Z (upd c2.Z a (.ins (He.ga X.K c3) dx2 (ns2.zip vs2))) := same_upd za
  have zd1 : (upd c2.Z a (.ins (He.ga X.K c3) dx2 (ns2.zip vs2))) dx2 = none := (upd_ne (Ne.symm ne)).trans zd
  have sm2 : Same c2.Z (upd (upd c2.Z a (.ins (He.ga X.K c3) dx2 (ns2.zip vs2))) dx2 (.own a)) := sm1.trans (same_upd zd1)
  have za2 : (upd (upd c2.Z a (.ins (He.ga X.K c3) dx2 (ns2.zip vs2))) dx2 (.own a)) a = some (.ins (He.ga X.K c3) dx2 (ns2.zip vs2)) := (upd_ne ne).trans upd_same
  refine ⟨obD c3 ns2 ds2 :: as, upd (upd c2.Z a (.ins (He.ga X.K c3) dx2 (ns2.zip vs2))) dx2 (.own a), by simp [hk], fun b o q => ?_, ?_, ?_⟩
  · by_cases hb1 : b = dx2
    · subst hb1
      rw [upd_same] at q
      cases q
      exact e10
    · rw [upd_ne hb1] at q
      by_cases hb2 : b = a
      · subst hb2
        rw [upd_same] at q
        cases q
        exact e9
      · rw [upd_ne hb2] at q
        exact h2.zh b o q
  · rw [List.append_nil]
    exact .cons (.ob za2 upd_same e11 (e12.mono sm2)) (ru.mono sm2)
  · split at q2
    · rename_i n eg
      rw [eg]
      intro c' v st z rv
      cases rv
      have kk : ∀ b o, c2.H b = some o → c'.H b = some o := fun b o q => st.k b o q (by simp)
      have hh : Holds X.K S2 σ ⟨c2.Z, c'.H, c2.F⟩ := by
        refine ⟨HoldsL.tr (c := c2) (c' := ⟨c2.Z, c'.H, c2.F⟩) (Same.refl _) h2.l fun b m => ?_, h2.nd, h2.zf, fun b o q => kk b o (h2.zh b o q)⟩
        obtain ⟨o, q, _⟩ := h2.l.own b m
        show c'.H b = c2.H b
        rw [kk b o q, q]
      exact q2 ⟨c2.Z, c'.H, c2.F⟩ ⟨Same.refl _, fun b o q _ => kk b o q, fun b o q => ⟨o, kk b o q⟩, fun b o q => .inl q, fun b m => .inl m⟩ hh _ (.int n)
    · exact q2.elim
/-! ### __init__ -/
def outI (a dx : Addr) (cls : Str) : Out → Option (List Str × List D)
  | .nx (.obj a' dx' c ns ds :: _) => if a' = a ∧ dx' = dx ∧ c = cls then some (ns, ds) else none
  | _ => none
def runI (n : Nat) (body : SM) (cls : Str) (a dx : Addr) (ds : List D) : Option (List Str × List D) := outI a dx cls (body (.obj a dx cls [] [] :: startS ds (n - 1)))
def spI (K : PySem.W.Frag) (cls : Str) (m : Nat) (g : Addr → Addr → List D → Option (List Str × List D)) : Sp := fun vs H Q _ => ∃ a dx vs' ds Z, vs = .ref a :: vs' ∧ ds.length + 1 = m ∧ H a = some (.ins (He.ga K cls) dx []) ∧ H dx = some (.own a) ∧ a ≠ dx ∧ Z a = none ∧ Z dx = none ∧ Same Z H ∧ RpA K Z vs' ds ∧
  match g a dx ds with
  | some (ns, fs) => ∀ c' us, Stp ⟨Z, H, [a, dx]⟩ c' → Same c'.Z c'.H → c'.Z a = none → c'.Z dx = none → c'.H a = some (.ins (He.ga K cls) dx (ns.zip us)) → c'.H dx = some (.own a) → ns.length = fs.length → RpA K c'.Z us fs → Q .non c'.H
  | none => False
end
section
variable {P : Program} {w : World} {K : PySem.W.Frag} {mg : Str → Option Value} {base : Heap}
theorem ok_I {x qual : Str} {st : Stmt} {f : Addr} {fd : FuncData} {N ps : List Str} {k : Nat} {body : SM} (cls : Str) (F : Fun K x qual st f fd) (S : FnScope N ps (defScope st)) (hN : 0 < N.length)
    (hb : ∀ (cdv : Value) (A : Around) (outer : List Env) (s : Shared) (H : Hp) (E : XK), Room k (A.deeper (envOfC qual (defScope st) s.heap.objs.size f cdv)) →
      DSs (cxOf CX0 P w K mg base N qual (defScope st) f cdv A outer s H E).nox W0 (defBody st) body) : FnOk P w K mg base CX0 (k + 1) f fd ps (spI K cls ps.length (runI N.length body cls)) := by
  refine F.ok S (fun vs H Q E h => ?_) (fun cdv A outer s H vs Q E hr h => ?_)
  · obtain ⟨a, dx, vs', ds, Z, rfl, hl, _, _, _, _, _, _, r, _⟩ := h
    rw [List.length_cons, r.length]
    exact hl
  · obtain ⟨a, dx, vs', ds, Z, rfl, hl, ha, hd, ne, za, zd, zh, r, q⟩ := h
    have e0 : L2.start N (.ref a :: vs') = some (.ref a) :: (vs'.map some ++ List.replicate (N.length - 1 - vs'.length) none) := by
      unfold L2.start
      rw [List.map_cons, List.cons_append, List.length_cons]
      congr 3
      omega
    have hst : Holds K (.obj a dx cls [] [] :: startS ds (N.length - 1)) (L2.start N (.ref a :: vs')) ⟨Z, H, [a, dx]⟩ := by
      refine ⟨?_, by simp [ne], fun b m => ?_, zh⟩
      · rw [e0]
        have q : HoldsL K ⟨Z, H, [a, dx]⟩ (.obj a dx cls [] [] :: startS ds (N.length - 1)) (some (.ref a) :: (vs'.map some ++ List.replicate (N.length - 1 - vs'.length) none)) ([a, dx] ++ []) := by
          refine .cons ⟨[], rfl, rfl, ha, hd, rfl, .nil⟩ ?_
          unfold startS
          rw [r.length]
          exact startL (c := ⟨Z, H, [a, dx]⟩) _ r
        exact q
      · have m' : b = a ∨ b = dx := by simpa using m
        rcases m' with z | z
        · rw [z]; exact za
        · rw [z]; exact zd
    refine ⟨_, hb cdv A outer s H E hr, _, Z, [a, dx], hst, ?_⟩
    unfold runI outI at q
    cases e : body (.obj a dx cls [] [] :: startS ds (N.length - 1)) with
    | nx S' =>
      rw [e] at q
      match S', q with
      | [], q => exact q.elim
      | .un :: _, q => exact q.elim
      | .dat _ :: _, q => exact q.elim
      | .own _ :: _, q => exact q.elim
      | .dic _ _ :: _, q => exact q.elim
      | .drw _ _ _ :: _, q => exact q.elim
      | .obj a' dx' c ns fs :: S', q =>
        by_cases ea : a' = a ∧ dx' = dx ∧ c = cls
        · obtain ⟨rfl, rfl, rfl⟩ := ea
          simp only [and_self, if_true] at q
          intro σ' c' st' h'
          obtain ⟨us, e2, e3, e4, e5, e6, aF, dF, _⟩ := h'.objAt (i := 0) rfl
          exact q c' us st' h'.zh (h'.zf _ aF) (h'.zf _ dF) e3 e4 e5 e6
        · simp only [if_neg ea] at q
    | rt d S' => rw [e] at q; exact q.elim
    | bk S' => rw [e] at q; exact q.elim
    | ct S' => rw [e] at q; exact q.elim
    | ex x S' => rw [e] at q; exact q.elim
    | bad => rw [e] at q; exact q.elim
end
section
variable {X : Cx} {W : WX} {pos p : Pos} {e : Expr} {es : List Expr} {fa : EM (List D)} {x : Str}
/-- the class as it may be called -/
def CalI (P : Program) (w : World) (K : PySem.W.Frag) (mg : Str → Option Value) (base : Heap) (cls : Str) (ps : List Str) (k : Nat) (sp : Sp) : Prop :=
  ∃ f fd, FnOk P w K mg base CX0 k f fd ps sp ∧ Mk K (He.ga K cls) f ∧ mg cls = some (.ref (He.ga K cls)) ∧ L2.Binds K fd ps []
/-- an instance is made: the numbers at which it lies are taken for nought -/
def eMake (cls : Str) (k : Nat) (g : List D → Option (List Str × List D)) (fa : EM (List D)) : EM D := eBind fa fun ds => if ds.length = k then (match g ds with
  | some (ns, fs) => eRet (obD cls ns fs)
  | none => fun _ => .bad) else fun _ => .bad
theorem de_make {cls : Str} {kk k : Nat} {ps : List Str} {g' : Addr → Addr → List D → Option (List Str × List D)} {g : List D → Option (List Str × List D)} (C : CalI X.prog X.w X.K X.mg X.base cls ps kk (spI X.K cls (k + 1) g')) (hg' : ∀ a dx ds r, g ds = some r → g' a dx ds = some r) (hr : Room (kk + 1) X.A) (ha : DA X W (e :: es) fa) (hg : Gl X cls := by rfl)
    (hdb : (cls == ("__debug__" : Str)) = false := by decide) (he : starEach (e :: es) X.env = (false, eval e X.env) :: starEach es X.env := by rfl) (hpl : (backTo pos (starEach es X.env)).any (·.1) = false := by rfl) : DE X W (.Call (.Name cls p) (e :: es) [] pos) (eMake cls k g fa) := by
  obtain ⟨f, fd, FF, M, hm, hb⟩ := C
  refine PE.wk (pe_make (E := E0) M FF hr hg hm hb .nil pass0 ha hdb he hpl) fun σ H Q q => ?_
  obtain ⟨S, Z, F, h, q⟩ := q
  refine ⟨S, Z, F, h, (Go.bind q).mono fun ds S1 c1 s1 h1 q1 vs rs => ?_⟩
  intro y dx hy hdx ne
  split at q1
  rotate_left
  · exact q1.elim
  rename_i hk
  cases eg : g ds with
  | none => rw [eg] at q1; exact q1.elim
  | some nf =>
    obtain ⟨ns, fs⟩ := nf
    rw [eg] at q1
    have zy : c1.Z y = none := h1.nf hy
    have zd : c1.Z dx = none := h1.nf hdx
    have old : ∀ {b o}, c1.H b = some o → (upd (upd c1.H dx (.own y)) y (.ins (He.ga X.K cls) dx [])) b = some o := fun {b o} q => by
      rw [upd_ne (ne_of_none q hy), upd_ne (ne_of_none q hdx)]
      exact q
    have new : ∀ {b}, (upd (upd c1.H dx (.own y)) y (.ins (He.ga X.K cls) dx [])) b = none → c1.H b = none := fun {b} q => by
      cases z : c1.H b with
      | none => rfl
      | some o =>
        rw [old z] at q
        cases q
    refine ⟨y, dx, vs, ds, c1.Z, by rw [List.append_nil], by simp [hk], upd_same, (upd_ne ne).trans upd_same, Ne.symm ne, zy, zd, fun b o q => old (h1.zh b o q), rs, ?_⟩
    rw [hg' _ _ _ _ eg]
    intro c' us st zh za2 zd2 e3 e4 e5 e6
    refine ⟨rfl, ?_⟩
    have sm1 : Same c'.Z (upd c'.Z y (.ins (He.ga X.K cls) dx (ns.zip us))) := same_upd za2
    have sm2 : Same c'.Z (upd (upd c'.Z y (.ins (He.ga X.K cls) dx (ns.zip us))) dx (.own y)) := sm1.trans (same_upd ((upd_ne ne).trans zd2))
    have kk : ∀ b o, c1.H b = some o → c'.H b = some o := fun b o q => st.k b o (old q) (by
      have n1 : b ≠ y := ne_of_none q hy
      have n2 : b ≠ dx := ne_of_none q hdx
      simp [n1, n2])
    have zn : ∀ b o, c'.Z b = some o → c1.Z b = some o ∨ c1.H b = none ∨ ∃ xs, c1.H b = some (.tup xs) := fun b o q => by
      rcases st.n b o q with z | z | z | ⟨xs, z⟩
      · exact .inl z
      · exact .inr (.inl (new z))
      · have m' : b = y ∨ b = dx := by simpa using z
        rcases m' with z | z
        · rw [z]; exact .inr (.inl hy)
        · rw [z]; exact .inr (.inl hdx)
      · by_cases b1 : b = y
        · rw [b1]; exact .inr (.inl hy)
        · by_cases b2 : b = dx
          · rw [b2]; exact .inr (.inl hdx)
          · have z' : (upd (upd c1.H dx (.own y)) y (.ins (He.ga X.K cls) dx [])) b = some (.tup xs) := z
            rw [upd_ne b1, upd_ne b2] at z'
            exact .inr (.inr ⟨xs, z'⟩)
    have zn2 : ∀ b o, (upd (upd c'.Z y (.ins (He.ga X.K cls) dx (ns.zip us))) dx (.own y)) b = some o → c1.Z b = some o ∨ c1.H b = none ∨ ∃ xs, c1.H b = some (.tup xs) := fun b o q => by
      by_cases b2 : b = dx
      · rw [b2]; exact .inr (.inl hdx)
      · rw [upd_ne b2] at q
        by_cases b1 : b = y
        · rw [b1]; exact .inr (.inl hy)
        · rw [upd_ne b1] at q
          exact zn b o q
    refine q1 ⟨upd (upd c'.Z y (.ins (He.ga X.K cls) dx (ns.zip us))) dx (.own y), c'.H, c1.F⟩ ⟨st.z.trans sm2, fun b o q _ => kk b o q, fun b o q => ⟨o, kk b o q⟩, fun b o q => ?_, fun b m => .inl m⟩ ⟨HoldsL.tr (c := c1) (c' := ⟨_, c'.H, c1.F⟩) (st.z.trans sm2) h1.l fun a m => ?_, h1.nd, fun a m => ?_, fun b o q => ?_⟩ (.ref y) ?_
    · rcases zn2 b o q with z | z | z
      · exact .inl z
      · exact .inr (.inl z)
      · exact .inr (.inr (.inr z))
    · obtain ⟨o, q, _⟩ := h1.l.own a m
      show c'.H a = c1.H a
      rw [kk a o q, q]
    · obtain ⟨o, q, q2⟩ := h1.l.own a m
      show (upd (upd c'.Z y (.ins (He.ga X.K cls) dx (ns.zip us))) dx (.own y)) a = none
      cases z : (upd (upd c'.Z y (.ins (He.ga X.K cls) dx (ns.zip us))) dx (.own y)) a with
      | none => rfl
      | some o2 =>
        rcases zn2 a o2 z with z | z | ⟨xs, z⟩
        · rw [h1.zf a m] at z
          cases z
        · rw [q] at z
          cases z
        · rw [q] at z
          exact absurd (Option.some.inj z) (q2 _)
    · have q' : (upd (upd c'.Z y (.ins (He.ga X.K cls) dx (ns.zip us))) dx (.own y)) b = some o := q
      by_cases b2 : b = dx
      · subst b2
        rw [upd_same] at q'
        cases q'
        exact e4
      · rw [upd_ne b2] at q'
        by_cases b1 : b = y
        · subst b1
          rw [upd_same] at q'
          cases q'
          exact e3
        · rw [upd_ne b1] at q'
          exact zh b o q'
    · exact .ob ((upd_ne (Ne.symm ne)).trans upd_same) upd_same e5 (e6.mono sm2)
end
end FW

/-! FwQ: tables of the module, the head's facts about them; index. -/
namespace FW
open PySem PySem.Spec L2
open PyProof.Rows hiding St
/-! ### facts -/
def tupAt (K : PySem.W.Frag) (v : Value) (ns : List Int) : Bool := match v with
  | .ref T => (match K.lookup T with
    | some ⟨.type c, _, .seq its _, _⟩ => decide (c = "tuple") && decide (its.size ≤ sizeLine) && He.relAll (ns.map V.int) its.toList
    | _ => false)
  | _ => false
def tupB (K : PySem.W.Frag) (x : Str) (ns : List Int) : Bool := tupAt K (.ref (He.ga K x)) ns
theorem tupAt_ok {K : PySem.W.Frag} {v : Value} {ns : List Int} (h : tupAt K v ns = true) : ∃ T, v = .ref T ∧ ∀ H, SqT K H T (ns.map V.int) := by
  unfold tupAt at h
  split at h
  · rename_i T
    split at h
    · rename_i c od its n sl e
      rw [Bool.and_eq_true, Bool.and_eq_true] at h
      obtain ⟨⟨h1, h2⟩, h3⟩ := h
      have e1 : c = "tuple" := of_decide_eq_true h1
      subst e1
      exact ⟨T, rfl, fun H => .inr ⟨_, its, n, e, rfl, rfl, of_decide_eq_true h2, He.relAll_ok h3⟩⟩
    · cases h
  · cases h
theorem dpInts {K : PySem.W.Frag} {H : Hp} : ∀ ns : List Int, DpAll K H (ns.map V.int) (ns.map PyData.int)
  | [] => .nil
  | n :: ns => .cons (.int n) (dpInts ns)
theorem tupB_ok {K : PySem.W.Frag} {x : Str} {ns : List Int} (h : tupB K x ns = true) : ∀ Z, Dp K Z (.ref (He.ga K x)) (.tuple (ns.map PyData.int)) := fun Z => by
  obtain ⟨T, e, q⟩ := tupAt_ok h
  cases e
  exact .tup (q Z) (dpInts ns)
def tabAll (K : PySem.W.Frag) : List DictEntry → List (Int × List Int) → Bool
  | [], [] => true
  | e :: es, (i, ns) :: tab => (match e.key with | .int j _ => decide (j = i) | _ => false) && decide (e.hash = hashInt i) && tupAt K e.val ns && tabAll K es tab
  | _, _ => false
def tabB (K : PySem.W.Frag) (x : Str) (tab : List (Int × List Int)) : Bool := match K.lookup (He.ga K x) with
  | some ⟨.type c, none, .dict es _, osl⟩ => decide (c = "dict") && (osl.isEmpty && !(He.ga K x == sysModules)) && tabAll K es.toList tab
  | _ => false
/-- a dict of the module: numbers to tuples of numbers -/
structure KTab (K : PySem.W.Frag) (a : Addr) (es : Array DictEntry) (tab : List (Int × List Int)) : Prop where
  at_ : ∃ n, K.lookup a = some ⟨.type "dict", none, .dict es n, #[]⟩
  ns : (a == sysModules) = false
  al : tabAll K es.toList tab = true
theorem tabB_ok {K : PySem.W.Frag} {x : Str} {tab : List (Int × List Int)} (h : tabB K x tab = true) : ∃ es, KTab K (He.ga K x) es tab := by
  unfold tabB at h
  split at h
  · rename_i c es n osl e
    rw [Bool.and_eq_true, Bool.and_eq_true, Bool.and_eq_true] at h
    obtain ⟨⟨h1, h2, h3⟩, h4⟩ := h
    have e1 : c = "dict" := of_decide_eq_true h1
    have e2 : osl = #[] := Array.isEmpty_iff.mp h2
    subst e1 e2
    refine ⟨es, ⟨n, e⟩, ?_, h4⟩
    cases q : He.ga K x == sysModules with
    | false => rfl
    | true => rw [q] at h3; cases h3
  · cases h
theorem tabAll_keys {K : PySem.W.Frag} {P : Program} {w : World} : ∀ {es : List DictEntry} {tab : List (Int × List Int)}, tabAll K es tab = true → ∀ e ∈ es, ∃ k, (mixKind P w).is k e.key = true ∧ e.hash = (mixKind P w).hash k
  | [], [], _, e, m => by simp at m
  | e0 :: es, (i, ns) :: tab, h, e, m => by
    unfold tabAll at h
    rw [Bool.and_eq_true, Bool.and_eq_true, Bool.and_eq_true] at h
    obtain ⟨⟨⟨h1, h2⟩, h3⟩, h4⟩ := h
    rcases List.mem_cons.mp m with z | m
    · subst z
      split at h1
      · rename_i j t ek
        have e1 : j = i := of_decide_eq_true h1
        subst e1
        refine ⟨.inl j, ?_, of_decide_eq_true h2⟩
        rw [ek]
        exact keyIs_int j t
      · cases h1
    · exact tabAll_keys h4 e m
  | [], _ :: _, h, _, _ => by cases h
  | _ :: _, [], h, _, _ => by cases h
theorem tabAll_find {K : PySem.W.Frag} (i : Int) : ∀ {es : List DictEntry} {tab : List (Int × List Int)}, tabAll K es tab = true →
    (tab.lookup i = none → es.find? (fun e => keyIs (.inl i) e.key) = none) ∧ ∀ ns, tab.lookup i = some ns → ∃ e, es.find? (fun e => keyIs (.inl i) e.key) = some e ∧ tupAt K e.val ns = true
  | [], [], _ => ⟨fun _ => rfl, fun ns h => by cases h⟩
  | e0 :: es, (j, ms) :: tab, h => by
    unfold tabAll at h
    rw [Bool.and_eq_true, Bool.and_eq_true, Bool.and_eq_true] at h
    obtain ⟨⟨⟨h1, h2⟩, h3⟩, h4⟩ := h
    have ih := tabAll_find i h4
    split at h1
    · rename_i j' t ek
      have e1 : j' = j := of_decide_eq_true h1
      subst e1
      by_cases e : i = j'
      · subst e
        have k1 : keyIs (.inl i) e0.key = true := by
          rw [ek]
          exact keyIs_int i t
        rw [List.lookup_cons_self, List.find?_cons_of_pos (p := fun e : DictEntry => keyIs (.inl i) e.key) (a := e0) k1]
        exact ⟨fun h => (by cases h), fun ns h => ⟨e0, rfl, (by cases h; exact h3)⟩⟩
      · have k1 : ¬ keyIs (.inl i) e0.key = true := by
          rw [ek]
          simp [keyIs, Value.isInt]
          exact fun z => e z.symm
        have k2 : (i == j') = false := by simpa using e
        rw [List.lookup_cons, k2, List.find?_cons_of_neg (p := fun e : DictEntry => keyIs (.inl i) e.key) (a := e0) k1]
        exact ih
    · cases h1
  | [], _ :: _, h => by cases h
  | _ :: _, [], h => by cases h
section
variable {X : Cx} {W : WX} {pos p apos : Pos} {x : Str} {k d : Expr} {ty tx : TE}
def tKGet (es : Array DictEntry) (ty tx : TE) : TE := fun σ H Q => ty σ H fun y H1 => tx σ H1 fun z H2 => ∃ i, y = .int i ∧ ((es.toList.find? fun e => keyIs (.inl i) e.key) = none → Q z H2) ∧ ∀ e, (es.toList.find? fun e => keyIs (.inl i) e.key) = some e → ∃ v, RelV v e.val ∧ Q v H2
theorem pe_kget {a : Addr} {es : Array DictEntry} {tab : List (Int × List Int)} (T : KTab X.K a es tab) (hg : Gl X x) (hm : X.mg x = some (.ref a)) (hk : PE X k ty) (hx : PE X d tx) (hdb : (x == ("__debug__" : Str)) = false := by decide) (m : M2 X (.Name x p) "get" apos k d pos := by exact ⟨rfl, rfl, rfl, rfl⟩) :
    PE X (.Call (.Attribute (.Name x p) "get" apos) [k, d] [] pos) (tKGet es ty tx) := by
  have ho : PE X (.Name x p) (L2.tC (.ref a)) := pe_glob (v := .ref a) hg hm rfl hdb
  obtain ⟨n, hl⟩ := T.at_
  refine ⟨fun pins s σ H Q I h => ?_⟩
  refine wpAny_Call_method m.base m.few m.line PySem.F.plainAttrs_dict PySem.F.slot_dict_get PySem.F.type_dict_get (thn (ho.run pins s σ H (fun v H1 => v = .ref a ∧ H1 = H) I ⟨rfl, rfl⟩) fun u s1 ⟨x', H1, I1, rx, ex, eh⟩ => ?_)
  subst ex eh
  obtain rfl : u = Value.ref a := rx
  have at1 : ∀ {s : Shared} {σ' : L2.St} {H' : Hp}, Inv X pins σ' H' s → s.heap.get? a = some ⟨.type "dict", none, .dict es n, #[]⟩ := fun I => I.kIn _ _ hl
  refine ⟨⟨_, at1 I1, rfl⟩, fun b q => ?_, ?_⟩
  · cases q
    exact ⟨_, at1 I1, rfl⟩
  rw [m.trees]
  refine Calls.callWith_builtin rfl (Calls.evalArgs_plain (Calls.spliced_cons (thn (hk.run pins s1 σ H1 _ I1 h) fun iv s2 ⟨y, H2, I2, ry, q2⟩ =>
    Calls.spliced_cons (thn (hx.run pins s2 σ H2 _ I2 q2) fun fv s3 ⟨z, H3, I3, rz, i, ey, q3, q4⟩ => Calls.spliced_nil ?_))))
  subst ey
  refine call_meetsIn PySem.F.slot_dict_get ⟨_, at1 I3, rfl⟩ PySem.F.entry_dict_get (PySem.F.args_dict_get_3 _ _ _) (meets_dict_get_default (mixKind X.prog X.w) (k := .inl i) a (kV_is (k := .inl i) ry) T.ns fv) ⟨fun k => findBy keyIs es k, ⟨_, es, n, at1 I3, ⟨rfl, rfl, rfl⟩, rfl, fun e m => tabAll_keys T.al e (by simpa using m), fun k => rfl⟩, ?_⟩
  have ef : findBy keyIs es (.inl i) = (es.toList.find? fun e => keyIs (.inl i) e.key).map (·.val) := by
    unfold findBy
    rw [← Array.find?_toList]
  show EP X pins σ Q ((findBy keyIs es (.inl i)).getD fv) _
  rw [ef]
  cases eq : es.toList.find? fun e => keyIs (.inl i) e.key with
  | none => exact ⟨z, H3, I3.tok _, rz, q3 eq⟩
  | some e =>
    obtain ⟨v, rv, q5⟩ := q4 e eq
    exact ⟨v, H3, I3.tok _, rv, q5⟩
/-- LEADS.get(k, d) -/
def tabD (tab : List (Int × List Int)) (i : Int) (x : D) : D := match tab.lookup i with
  | some ns => .tuple (ns.map PyData.int)
  | none => x
def eKGet (tab : List (Int × List Int)) (fk fx : EM D) : EM D := eBind fk fun k => eBind fx fun x => match k with
  | .int i => eRet (tabD tab i x)
  | _ => fun _ => .bad
/-- a, b, .. = LEADS.get(k, d) -/
theorem ds_kget {a : Addr} {es : Array DictEntry} {tab : List (Int × List Int)} {ts : List Expr} {kk : Nat} {tp : Pos} {is : List Nat} {t : List D → List Slot → Option (List Slot)} {n : Nat} {fk fx : EM D} (hc : X.calm = true) (T : KTab X.K a es tab) (hm : X.mg x = some (.ref a)) (hk : DE X W k fk) (hx : DE X W d fx) (h : DGs X W ts is t) (hg : Gl X x := by rfl)
    (hdb : (x == ("__debug__" : Str)) = false := by decide) (m : M2 X (.Name x p) "get" apos k d pos := by exact ⟨rfl, rfl, rfl, rfl⟩)
    (hn : (assignEach ts X.env).length = n := by rfl) (hst : (assignEach ts X.env).findIdx? (·.1) = none := by rfl)
    {pos2 : Pos} (hs : swapsWithSole [.Tuple ts kk tp] (.Call (.Attribute (.Name x p) "get" apos) [k, d] [] pos) pos2.line X.env = pure false := by rfl) (hw : swappedStores [.Tuple ts kk tp] (.Call (.Attribute (.Name x p) "get" apos) [k, d] [] pos) X.env = pure none := by rfl)
    (h1 : (assignEach [.Tuple ts kk tp] X.env).map (·.2) = [assign (.Tuple ts kk tp) X.env] := by rfl) :
    DS X W (.Assign [.Tuple ts kk tp] (.Call (.Attribute (.Name x p) "get" apos) [k, d] [] pos) pos2) (sAsg (eKGet tab fk fx) (gT t n)) := by
  refine PS.wk (ps_asg (pe_kget T hg hm hk hx hdb m) (pg_tup hc h hn hst) hs hw h1) fun Q σ H q => ?_
  obtain ⟨S, Z, F, h0, q⟩ := q
  have q' : Go (gx X W) σ ⟨Z, H, F⟩ (eKGet tab fk fx S) (fun dd S' c' => GoS (gx X W) c' Q (match gT t n dd S' with | some S'' => .nx S'' | none => .bad)) := Go.toS q fun dd S1 c1 s1 h1 q1 => q1
  refine ⟨S, Z, F, h0, (Go.bind q').mono fun kd S1 c1 s1 h1 q1 y ry => ?_⟩
  refine ⟨S1, c1.Z, c1.F, h1, (Go.bind q1).mono fun xd S2 c2 s2 h2 q2 z rz => ?_⟩
  cases kd with
  | int i =>
    cases ry
    have q2 : ∀ c', Stp c2 c' → Holds X.K S2 σ c' → GoS (gx X W) c' Q (match gT t n (tabD tab i xd) S2 with | some S'' => .nx S'' | none => .bad) := q2
    have fin : ∀ (v : V) (dd : D) (xs : List V) (ds : List D) (T : Addr), v = .ref T → dd = .tuple ds → SqT X.K c2.H T xs → RpA X.K c2.Z xs ds → (∀ c', Stp c2 c' → Holds X.K S2 σ c' → GoS (gx X W) c' Q (match gT t n dd S2 with | some S'' => .nx S'' | none => .bad)) →
        ∃ a xs, v = V.ref a ∧ SqT X.K c2.H a xs ∧ xs.length = n ∧ ∃ S Z F ds S', Holds X.K S σ ⟨Z, c2.H, F⟩ ∧ RpA X.K Z xs ds ∧ t ds S = some S' ∧ ∀ σ' c', Stp ⟨Z, c2.H, F⟩ c' → Holds X.K S' σ' c' → Only is σ σ' → Q.nx σ' c'.H := by
      rintro v dd xs ds T rfl rfl sq r q3
      have q4 := q3 c2 (Stp.refl _) h2
      have eg : gT t n (.tuple ds) S2 = (if ds.length = n then t ds S2 else none) := rfl
      rw [eg] at q4
      by_cases hl : ds.length = n
      · rw [if_pos hl] at q4
        cases et : t ds S2 with
        | none => rw [et] at q4; exact q4.elim
        | some S'' =>
          rw [et] at q4
          exact ⟨T, xs, rfl, sq, by rw [r.length]; exact hl, S2, c2.Z, c2.F, ds, S'', h2, r, et, fun σ' c' st hh _ => q4 σ' c' st hh⟩
      · rw [if_neg hl] at q4
        exact q4.elim
    refine ⟨i, rfl, fun en => ?_, fun e0 en => ?_⟩
    · have el : tab.lookup i = none := by
        cases q : tab.lookup i with
        | none => rfl
        | some ns =>
          obtain ⟨e, e1, _⟩ := (tabAll_find i T.al).2 ns q
          rw [en] at e1
          cases e1
      have ed : tabD tab i xd = xd := by unfold tabD; rw [el]
      rw [ed] at q2
      have q3 := q2 c2 (Stp.refl _) h2
      have isT : ∃ ds, xd = .tuple ds := by
        cases xd with
        | tuple ds => exact ⟨ds, rfl⟩
        | _ => exact q3.elim
      obtain ⟨ds, rfl⟩ := isT
      obtain ⟨T2, xs, rfl, z1, r1⟩ := rz.tupS
      exact fin _ _ xs ds T2 rfl rfl (SqT.of (h2.zh _ _ z1)) r1 fun c' st hh => q2 c' st hh
    · cases q : tab.lookup i with
      | none =>
        rw [(tabAll_find i T.al).1 q] at en
        cases en
      | some ns =>
        obtain ⟨e, e1, e2⟩ := (tabAll_find i T.al).2 ns q
        rw [en] at e1
        cases e1
        have ed : tabD tab i xd = .tuple (ns.map PyData.int) := by unfold tabD; rw [q]
        rw [ed] at q2
        obtain ⟨T2, e3, sq⟩ := tupAt_ok e2
        exact ⟨.ref T2, e3, fin _ _ _ _ T2 rfl rfl (sq _) (RpA.ofI ns) fun c' st hh => q2 c' st hh⟩
  | _ => exact q2.elim
end
/-! ### the head, widened by facts of one's own -/
abbrev AlX : Type := He.AlD × Bool
def obsX (fa : List He.Fa) (fn : List He.DefD) (bs : List (PySem.W.Frag → Bool)) (K : PySem.W.Frag) : AlX := (He.obsD fa fn K, bs.all fun b => b K)
def obsXG (n : Nat) (fa : List He.Fa) (fn : List He.DefD) (bs : List (PySem.W.Frag → Bool)) (g : Addr → Option Obj) : AlX := obsX fa fn bs (He.frG g (He.asD g n))
def SaysX (fa : List He.Fa) (fn : List He.DefD) (bs : List (PySem.W.Frag → Bool)) (K : PySem.W.Frag) : Prop := obsX fa fn bs K = (He.valD fn, true)
def hookX (n : Nat) (fa : List He.Fa) (fn : List He.DefD) (bs : List (PySem.W.Frag → Bool)) : PySem.W.Hook where
  α := AlX
  obs := fun s => obsXG n fa fn bs s.heap.get?
  val := fun _ => (He.valD fn, true)
  says := fun _ h => ∃ K : PySem.W.Frag, K.In h ∧ SaysX fa fn bs K
  of := fun _ _ e => ⟨_, He.frG_in, e⟩
  keeps := fun _ _ _ ⟨K, hK, c⟩ k => ⟨K, PySem.W.Frag.In.keeps hK k, c⟩
theorem obsXG_eq {n : Nat} {fa : List He.Fa} {fn : List He.DefD} {bs : List (PySem.W.Frag → Bool)} {g : Addr → Option Obj} {s : Shared} (h : ∀ a, g a = s.heap.get? a) : obsXG n fa fn bs g = (hookX n fa fn bs).obs s := by
  have e : g = s.heap.get? := funext h
  rw [e] <;> rfl
theorem SaysX.d {fa : List He.Fa} {fn : List He.DefD} {bs : List (PySem.W.Frag → Bool)} {K : PySem.W.Frag} (c : SaysX fa fn bs K) : He.SaysD fa fn K := congrArg (fun z : AlX => z.1) c
theorem SaysX.b {fa : List He.Fa} {fn : List He.DefD} {bs : List (PySem.W.Frag → Bool)} {K : PySem.W.Frag} (c : SaysX fa fn bs K) (i : Nat) {b : PySem.W.Frag → Bool} (h : bs[i]? = some b := by rfl) : b K = true :=
  List.all_eq_true.mp (congrArg (fun z : AlX => z.2) c : bs.all (fun b => b K) = true) b (List.mem_of_getElem? h)
/-! ### index among numbers -/
section
variable {X : Cx} {W : WX} {pos p apos : Pos} {x : Str} {o k : Expr} {fo fk : EM D}
def idxI (ds : List D) (d : D) : Option D := match d with
  | .int n => (allI ds).bind fun ns => (ns.findIdx? fun m => decide (m = n)).map fun j => .int (j : Nat)
  | _ => none
def idxD (d k : D) : Option D := match d with
  | .list ds => idxI ds k
  | _ => none
theorem idx_rd {c : Cfg} {a : Addr} {ys : List V} {ds : List D} {y : V} {kd r : D} {Q : VK} (hs : SqL X.K c.H a ys) (rs : RpA X.K c.Z ys ds) (ry : Rp X.K c.Z y kd) (e : idxI ds kd = some r) (q : ∀ v, Rp X.K c.Z v r → Q v c.H) : rIndex X.K (.ref a) [y] c.H Q := by
  unfold idxI at e
  split at e
  · rename_i n
    cases ry
    obtain ⟨ns, e1, e2⟩ := Option.bind_eq_some_iff.mp e
    obtain ⟨j, e3, e4⟩ := Option.map_eq_some_iff.mp e2
    subst e4
    have ed := allI_ok e1
    subst ed
    have ey := rs.intsV
    subst ey
    obtain ⟨hj, h1, h2⟩ := List.findIdx?_eq_some_iff_getElem.mp e3
    have en : ns[j] = n := of_decide_eq_true h1
    refine ⟨a, ns.map V.int, .int n, j, .int n, rfl, rfl, hs, rfl, ?_, ?_, ?_, fun m z' hm hz => ?_, q _ (.int _)⟩
    · simp [flatV]
    · rw [List.getElem?_map, List.getElem?_eq_getElem hj, en]
      rfl
    · simp [eqV]
    · rw [List.getElem?_map, List.getElem?_eq_getElem (by omega)] at hz
      cases hz
      have := h2 m hm
      simpa [eqV] using this
  · cases e
def eIdx (fo fk : EM D) : EM D := eBind (eBind fo fun d => match d with | .list ds => eRet (.list ds) | _ => fun _ => .bad) fun d => eBind fk fun k => eOpt (idxD d k)
theorem de_index (ho : DE X W o fo) (hk : DE X W k fk)
    (hbase : attributeBase o "index" X.env (eval o X.env) = eval o X.env := by rfl)
    (hfew : ((backTo pos (starEach [k] X.env)).all (fun x => !x.1) && (backToKw pos (keywordEach [] X.env)).all (fun x => x.1.isSome)
      && decide ([k].length + ([] : List Keyword).length + (if ([] : List Keyword).isEmpty then 0 else 1) < 30)) = true := by rfl)
    (hline : (apos.endLine == pos.line) = true := by rfl) (hs : starEach [k] X.env = (false, eval k X.env) :: starEach [] X.env := by rfl) (hplain : (backTo pos (starEach [] X.env)).any (·.1) = false := by rfl) :
    DE X W (.Call (.Attribute o "index" apos) [k] [] pos) (eIdx fo fk) := by
  refine PE.wk (pe_bm PySem.F.plainAttrs_list PySem.F.slot_list_index PySem.F.type_list_index mt_index ho (pa_cons hk pa_nil hs) (hbase := hbase) (hfew := hfew) (hline := hline) (hs := hs) (hplain := hplain)) fun σ H Q q => ?_
  obtain ⟨S, Z, F, h, q⟩ := q
  have q' := Go.bind q
  refine ⟨S, Z, F, h, (Go.bind q').mono fun d S1 c1 s1 h1 q1 v rv => ?_⟩
  cases d with
  | list ds =>
    have q2 := q1 c1 (Stp.refl _) h1
    obtain ⟨a, ys, rfl, z1, r1⟩ := rv.lstI
    refine ⟨.inl ⟨rfl, ys, SqL.of (h1.zh _ _ z1)⟩, S1, c1.Z, c1.F, h1, (Go.bind q2).mono fun kd S2 c2 s2 h2 q3 y ry => ?_⟩
    obtain ⟨r, e, k⟩ := Go.opt q3
    have z2 := h2.zh _ _ (s2.z _ _ z1)
    exact idx_rd (SqL.of z2) (r1.mono s2.z) ry e fun v rv => k c2 (Stp.refl _) h2 v rv
  | _ => exact q1.elim
end
end FW

/-! FwR: bit_length, tuples of the module, more. -/
namespace FW
open PySem PySem.Spec L2
open PyProof.Rows hiding St
section
variable {X : Cx} {W : WX} {pos p apos : Pos} {x : Str} {o k e : Expr} {fo fk fe : EM D}
def bitsD : D → Option D
  | .int i => some (.int (Builtin.Int.intBits i : Nat))
  | _ => none
theorem de_bits (ho : DE X W o fo) (hbase : attributeBase o "bit_length" X.env (eval o X.env) = eval o X.env := by rfl) (hline : (apos.endLine == pos.line) = true := by rfl) : DE X W (.Call (.Attribute o "bit_length" apos) [] [] pos) (eUn bitsD fo) := by
  refine PE.wk (pe_bits ho hbase hline) fun σ H Q q => ?_
  obtain ⟨S, Z, F, h, q⟩ := q
  refine ⟨S, Z, F, h, (Go.bind q).mono fun d S1 c1 s1 h1 q1 v rv => ?_⟩
  obtain ⟨r, e1, k⟩ := Go.opt q1
  unfold bitsD at e1
  split at e1
  · cases e1
    cases rv
    exact ⟨_, rfl, k c1 (Stp.refl _) h1 _ (.int _)⟩
  · cases e1
/-- a tuple of the module to the left of == and != -/
theorem dt_eqKL (hu : X.A.units + 64 < cLine) {b : D} {px : Pos} (h : ∃ a, X.mg x = some (.ref a) ∧ ∀ Z, Dp X.K Z (.ref a) b) (he : DE X W e fe) (hg : Gl X x := by rfl) (hd : (x == ("__debug__" : Str)) = false := by decide) : DT X W (.Compare (.Name x px) [.Eq] [e] pos) (bOf (eBin eqD (eC b) fe)) := by
  obtain ⟨p, h1, h2⟩ := h
  refine PT.wk (pt_cmpR op_eqP (pe_glob (v := .ref p) hg h1 rfl hd) he (nomark _)) fun σ H Q q => ?_
  obtain ⟨S, Z, F, hh, q⟩ := bof_rd σ H Q q
  refine ⟨S, Z, F, hh, (Go.bind (show Go (gx X W) σ ⟨Z, H, F⟩ (eBind fe (fun c => eOpt (eqD b c)) S) _ from q)).mono fun a S1 c1 s1 h1' q1 v rv => ?_⟩
  obtain ⟨d, e1, k⟩ := Go.opt q1
  unfold eqD at e1
  split at e1
  · rename_i hs
    obtain ⟨n1, n2, hs⟩ := cmpOk_get hs
    cases e1
    exact ⟨b, a, h2 _, (Lo.z rv).dp h1'.zh n2, noDict_plain b n1, noDict_plain a n2, shal2_ok hs hu, k c1 (Stp.refl _) h1' _ (.bl _)⟩
  · cases e1
theorem dt_neKL (hu : X.A.units + 64 < cLine) {b : D} {px : Pos} (h : ∃ a, X.mg x = some (.ref a) ∧ ∀ Z, Dp X.K Z (.ref a) b) (he : DE X W e fe) (hg : Gl X x := by rfl) (hd : (x == ("__debug__" : Str)) = false := by decide) : DT X W (.Compare (.Name x px) [.NotEq] [e] pos) (bOf (eBin neD (eC b) fe)) := by
  obtain ⟨p, h1, h2⟩ := h
  refine PT.wk (pt_cmpR op_neP (pe_glob (v := .ref p) hg h1 rfl hd) he (nomark _)) fun σ H Q q => ?_
  obtain ⟨S, Z, F, hh, q⟩ := bof_rd σ H Q q
  refine ⟨S, Z, F, hh, (Go.bind (show Go (gx X W) σ ⟨Z, H, F⟩ (eBind fe (fun c => eOpt (neD b c)) S) _ from q)).mono fun a S1 c1 s1 h1' q1 v rv => ?_⟩
  obtain ⟨d, e1, k⟩ := Go.opt q1
  unfold neD at e1
  split at e1
  · rename_i hs
    obtain ⟨n1, n2, hs⟩ := cmpOk_get hs
    cases e1
    exact ⟨b, a, h2 _, (Lo.z rv).dp h1'.zh n2, noDict_plain b n1, noDict_plain a n2, shal2_ok hs hu, k c1 (Stp.refl _) h1' _ (.bl _)⟩
  · cases e1
/-- a tuple of numbers of the module -/
def KTup (X : Cx) (x : Str) (ns : List Int) : Prop := ∃ a, X.mg x = some (.ref a) ∧ ∀ Z, SqT X.K Z a (ns.map V.int)
/-- list(NAME) -/
theorem df_listK {ns : List Int} {px : Pos} (h : ∃ a, X.mg x = some (.ref a) ∧ ∀ Z, Dp X.K Z (.ref a) (.tuple (ns.map PyData.int))) (hm : X.mg "list" = none) (hg : Gl X x := by rfl) (hg2 : Gl X "list" := by rfl) (hd : (x == ("__debug__" : Str)) = false := by decide)
    (hs : starEach [.Name x px] X.env = (false, eval (.Name x px) X.env) :: starEach [] X.env := by rfl) (hpl : (backTo pos (starEach [] X.env)).any (·.1) = false := by rfl) :
    DF X W (.Call (.Name "list" p) [.Name x px] [] pos) (eRet (ns.map PyData.int)) := by
  obtain ⟨a, h1, h2⟩ := h
  refine PE.wk (pe_callTy call_list_of hg2 hm bt_list (pa_cons (pe_glob (v := .ref a) hg h1 rfl hd) pa_nil hs) (he := hs) (hpl := hpl)) fun σ H Q q => ?_
  obtain ⟨S, Z, F, hh, q⟩ := q
  have sq : SqT X.K H a (ns.map V.int) := by
    have d := h2 H
    cases d with
    | tup t1 t2 =>
      have e : ∀ {xs : List V} {ms : List Int}, DpAll X.K H xs (ms.map PyData.int) → xs = ms.map V.int := by
        intro xs ms t
        induction ms generalizing xs with
        | nil => cases t; rfl
        | cons m ms ih =>
          cases t with
          | cons u1 u2 =>
            cases u1
            rw [ih u2]
            rfl
      rw [e t2] at t1
      exact t1
  exact ⟨a, _, rfl, .inr sq, fun l hl => q _ (Stp.refl _) hh l _ hl (RpA.ofI ns)⟩
end
/-! ### sorted, numbers -/
def insI (n : Int) : List Int → List Int
  | [] => [n]
  | m :: ms => if n ≤ m then n :: m :: ms else m :: insI n ms
def sortI : List Int → List Int
  | [] => []
  | n :: ns => insI n (sortI ns)
theorem insI_perm (n : Int) : ∀ ms : List Int, (insI n ms).Perm (n :: ms)
  | [] => .refl _
  | m :: ms => by
    unfold insI
    split
    · exact .refl _
    · exact ((insI_perm n ms).cons m).trans (.swap _ _ _)
theorem sortI_perm : ∀ ns : List Int, (sortI ns).Perm ns
  | [] => .refl _
  | n :: ns => (insI_perm n _).trans ((sortI_perm ns).cons n)
theorem insI_sorted (n : Int) : ∀ {ms : List Int}, ms.Pairwise (· ≤ ·) → (insI n ms).Pairwise (· ≤ ·)
  | [], _ => List.pairwise_singleton _ _
  | m :: ms, h => by
    unfold insI
    split
    · rename_i hn
      refine List.pairwise_cons.mpr ⟨fun x hx => ?_, h⟩
      rcases List.mem_cons.mp hx with z | z
      · rw [z]; exact hn
      · exact Int.le_trans hn ((List.pairwise_cons.mp h).1 x z)
    · rename_i hn
      refine List.pairwise_cons.mpr ⟨fun x hx => ?_, insI_sorted n (List.pairwise_cons.mp h).2⟩
      rcases List.mem_cons.mp ((insI_perm n ms).mem_iff.mp hx) with z | z
      · rw [z]; omega
      · exact (List.pairwise_cons.mp h).1 x z
theorem sortI_sorted : ∀ ns : List Int, (sortI ns).Pairwise (· ≤ ·)
  | [] => List.Pairwise.nil
  | n :: ns => insI_sorted n (sortI_sorted ns)
theorem sorted_uniq : ∀ {as bs : List Int}, as.Perm bs → as.Pairwise (· ≤ ·) → bs.Pairwise (· ≤ ·) → as = bs
  | [], bs, p, _, _ => (List.nil_perm.mp p).symm
  | a :: as, [], p, _, _ => absurd p.length_eq (by simp)
  | a :: as, b :: bs, p, h1, h2 => by
    have e : a = b := by
      have m1 : a ∈ b :: bs := p.mem_iff.mp List.mem_cons_self
      have m2 : b ∈ a :: as := p.mem_iff.mpr List.mem_cons_self
      have l1 : b ≤ a := by
        rcases List.mem_cons.mp m1 with z | z
        · rw [z]; exact Int.le_refl _
        · exact (List.pairwise_cons.mp h2).1 a z
      have l2 : a ≤ b := by
        rcases List.mem_cons.mp m2 with z | z
        · rw [z]; exact Int.le_refl _
        · exact (List.pairwise_cons.mp h1).1 b z
      omega
    subst e
    rw [sorted_uniq (p.cons_inv) (List.pairwise_cons.mp h1).2 (List.pairwise_cons.mp h2).2]
section
variable {X : Cx} {W : WX}
def sortedD : List D → Option (List D)
  | [.list ds] => (allI ds).map fun ns => (sortI ns).map PyData.int
  | _ => none
theorem cf_sorted : CallF X W (.builtin "sorted") sortedD := by
  refine ⟨_, cr_sortedI, fun vs ds es S σ c Q e hh rs q => ?_⟩
  unfold sortedD at e
  split at e
  · rename_i es'
    obtain ⟨ns, e1, e2⟩ := Option.map_eq_some_iff.mp e
    subst e2
    have ed := allI_ok e1
    subst ed
    obtain ⟨v, rfl, r⟩ := rs.one
    obtain ⟨a, xs, rfl, a1, r1⟩ := r.lstI hh.zh
    have ex := r1.intsV
    subst ex
    refine ⟨a, ns, rfl, SqL.of a1, fun ms p p2 p3 hp => ?_⟩
    have em : ms = sortI ns := sorted_uniq (p2.trans (sortI_perm ns).symm) p3 (sortI_sorted ns)
    subst em
    exact q c p _ (Stp.refl _) hh hp (RpA.ofI _)
  · cases e
end
/-- the j-th statement of a class's body -/
def clsS (st : Stmt) (j : Nat) : Stmt := match st with
  | .ClassDef _ _ _ body _ _ _ _ _ _ _ => body.getD j (.Pass ⟨0, 0, 0, 0⟩)
  | _ => .Pass ⟨0, 0, 0, 0⟩
end FW

/-! FwP: the first statements of every law, the end of every law. -/
namespace FW
open PySem PySem.Spec L2
open PyProof.Rows hiding St
def absI (i : Int) : Int := if i < 0 then -i else i
def stRest : SM := sSeq (sIf (bOf (eBin eqD (eB lenD (aCons (eV 1) aNil)) (eC (.int 0)))) (sSeq (sSet 1 (eLst (aCons (eC (.int 0)) aNil))) sNx) sNx) (sSeq (sRet (eLst (aCons (eC (.int 0)) (aCons (eV 1) aNil)))) sNx)
theorem stRest_eq (ns : List Int) (h : ns.length ≤ 63) : ∃ ms S, DrawOk ms ∧ stRest [.un, .dat (.list (ns.map PyData.int)), .un] = .rt (.list [.int 0, .list (ms.map PyData.int)]) S := by
  have h16 : (63 : Nat) ≤ sizeLine := by decide
  cases ns with
  | nil => exact ⟨[0], _, by unfold DrawOk; decide, rfl⟩
  | cons n ns => exact ⟨n :: ns, _, by unfold DrawOk; simp, by
      have e : PyData.eqv (.int ((((n :: ns).map PyData.int).length : Nat) : Int)) (.int 0) = false := by
        simp [PyData.eqv]
        omega
      have e2 : eqD (.int ((((n :: ns).map PyData.int).length : Nat) : Int)) (.int 0) = some (.bool false) := by
        unfold eqD
        rw [e]
        rfl
      have e3 : (eB lenD (aCons (eV 1) aNil)) [.un, .dat (.list ((n :: ns).map PyData.int)), .un] = .ok (.int ((((n :: ns).map PyData.int).length : Nat) : Int)) [.un, .dat (.list ((n :: ns).map PyData.int)), .un] := rfl
      have e4 : (bOf (eBin eqD (eB lenD (aCons (eV 1) aNil)) (eC (.int 0)))) [.un, .dat (.list ((n :: ns).map PyData.int)), .un] = .ok false [.un, .dat (.list ((n :: ns).map PyData.int)), .un] := by
        unfold bOf eBin eBind
        simp only [e3, eC, eRet, e2, eOpt, asB]
      unfold stRest sSeq sIf sOf
      simp only [e4]
      rfl⟩
theorem cut63 (vs : List V) (hl : vs.length ≤ 63) : cutV vs none (some 63) = vs := by
  unfold cutV
  have e : HT.sIx vs.length vs.length (some 63) = vs.length := by
    unfold HT.sIx
    simp
    omega
  rw [e]
  have e0 : HT.sIx vs.length 0 none = 0 := rfl
  rw [e0, List.drop_zero, Nat.sub_zero, List.take_length]
/-- the last two statements of _law_state, from what the first leaves -/
theorem state_rest {X : Cx} {Q : VK} {H H' : Hp} {a Dl : Addr} {ns : List Int} {nx bk ct : St → Hp → Prop} (hlen : ns.length ≤ 63) (sm : Same H H') (hD0 : H Dl = none) (h2 : H' Dl = some (.lst (ns.map fun n => V.int (absI n))))
    (q : ∀ H' a b, Same H H' → H a = none → H b = none → a ≠ b → ∀ ms : List Int, DrawOk ms → H' a = some (.lst [.int 0, .ref b]) → H' b = some (.lst (ms.map V.int)) → Q (.ref a) H') :
    tS (gx X W0) stRest ⟨nx, Q, bk, ct⟩ [some (.ref a), some (.ref Dl), none] H' := by
  obtain ⟨ms, S', hms, er⟩ := stRest_eq (ns.map absI) (by simpa using hlen)
  have hz : Holds X.K [.un, .dat (.list ((ns.map absI).map PyData.int)), .un] [some (.ref a), some (.ref Dl), none] ⟨upd (fun _ => none) Dl (.lst (ns.map fun n => V.int (absI n))), H', []⟩ := by
    refine ⟨?_, List.nodup_nil, fun a m => by simp at m, fun b o e => ?_⟩
    · have q : HoldsL X.K ⟨upd (fun _ => none) Dl (.lst (ns.map fun n => V.int (absI n))), H', []⟩ [.un, .dat (.list ((ns.map absI).map PyData.int)), .un] [some (.ref a), some (.ref Dl), none] ([] ++ ([] ++ ([] ++ []))) := by
        have r := RpA.ofI (K := X.K) (Z := upd (fun _ => none) Dl (.lst (ns.map fun n => V.int (absI n)))) (ns.map absI)
        rw [List.map_map] at r
        have r1 : Rp X.K (upd (fun _ => none) Dl (.lst (ns.map fun n => V.int (absI n)))) (.ref Dl) (.list ((ns.map absI).map PyData.int)) := .lst upd_same r
        exact .cons rfl (.cons ⟨rfl, _, rfl, r1⟩ (.cons rfl .nil))
      exact q
    · have e' : upd (fun _ => none) Dl (.lst (ns.map fun n => V.int (absI n))) b = some o := e
      by_cases hb : b = Dl
      · subst hb
        rw [upd_same] at e'
        rw [← e']
        exact h2
      · rw [upd_ne hb] at e'
        cases e'
  refine ⟨_, _, _, hz, ?_⟩
  rw [er]
  intro σ' c' v st hh rv
  obtain ⟨va, xs, rfl, z1, r1⟩ := rv.lstI
  cases r1 with
  | cons r1 r2 =>
  cases r1
  obtain ⟨vb, rfl, r3⟩ := r2.one
  obtain ⟨b2, ys, rfl, z2, r4⟩ := r3.lstI
  have ey := r4.intsV
  subst ey
  have was : ∀ {p2 : Addr} {o : HO}, c'.Z p2 = some o → (∀ xs, o ≠ .tup xs) → p2 = Dl ∨ H' p2 = none := fun {p2 o} e hn => by
    rcases st.n p2 o e with z | z | z | ⟨xs, z⟩
    · by_cases hb : p2 = Dl
      · exact .inl hb
      · have z' : upd (fun _ => none) Dl (.lst (ns.map fun n => V.int (absI n))) p2 = some o := z
        rw [upd_ne hb] at z'
        cases z'
    · exact .inr z
    · simp at z
    · have z3 := st.k p2 _ z (by simp)
      have z4 := hh.zh _ _ e
      rw [z3] at z4
      cases z4
      exact absurd rfl (hn _)
  have hnone : ∀ {p2 : Addr} {o : HO}, c'.Z p2 = some o → (∀ xs, o ≠ .tup xs) → H p2 = none := fun {p2 o} e hn => by
    rcases was e hn with z | z
    · rw [z]; exact hD0
    · cases q : H p2 with
      | none => rfl
      | some o =>
        rw [sm _ _ q] at z
        cases z
  have smc : Same H c'.H := fun b o e => st.k b o (sm b o e) (by simp)
  refine q c'.H va b2 smc (hnone z1 fun _ e => by cases e) (hnone z2 fun _ e => by cases e) (fun e => ?_) ms hms (hh.zh _ _ z1) (hh.zh _ _ z2)
  subst e
  rw [z1] at z2
  cases ms with
  | nil => cases z2
  | cons m ms =>
    cases ms with
    | nil => cases z2
    | cons m2 ms => cases z2
/-- _law_state, all three statements -/
theorem state_all {X : Cx} {Q : VK} {H : Hp} {a : Addr} {ns : List Int} {nx bk ct : St → Hp → Prop} (hS : SqL X.K H a (ns.map V.int)) (hlen : ns.length ≤ 63)
    (q : ∀ H' a b, Same H H' → H a = none → H b = none → a ≠ b → ∀ ms : List Int, DrawOk ms → H' a = some (.lst [.int 0, .ref b]) → H' b = some (.lst (ms.map V.int)) → Q (.ref a) H') :
    tSeq (tAsg (tLc (iList X.K (L2.tSl (rSlL X.K) (tVar 0) tNoPart (tPart (tC (.int 63))))) (gName 2) tYes (tCB (fun xs H Q => ∃ i, xs = [.int i] ∧ Q (.int (if i < 0 then -i else i)) H) (tCons (tVar 2) tNil)) [2]) (gName 1)) (tS (gx X W0) stRest) ⟨nx, Q, bk, ct⟩ [some (.ref a), none, none] H := by
  have h16 : (63 : Nat) < sizeLine := by decide
  refine ⟨.ref a, rfl, 63, rfl, a, ns.map V.int, rfl, hS, fun p hp => ?_⟩
  rw [cut63 _ (by simpa using hlen)]
  refine ⟨p, rfl, ⟨_, .inl (.inl upd_same)⟩, fun Dl hD => ?_⟩
  have nDp : Dl ≠ p := fun e => by
    subst e
    rw [upd_same] at hD
    cases hD
  have hD0 : H Dl = none := by
    rw [upd_ne nDp] at hD
    exact hD
  have pD : p ≠ Dl := fun e => nDp e.symm
  refine lc_list (xs := ns.map V.int) (a := p) (fun i H' => Same H H' ∧ H' p = some (.lst (ns.map V.int)) ∧ H' Dl = some (.lst ((ns.take i).map fun n => V.int (absI n)))) ⟨?_, ?_, ?_⟩ (fun i H' _ hP => .inl (.inl hP.2.1)) (fun i x H' hx hP => ?_) (fun H' hP => ?_)
  · exact fun b o e => by
      have nb : b ≠ Dl := ne_of_none e hD0
      have nb2 : b ≠ p := ne_of_none e hp
      rw [upd_ne nb, upd_ne nb2]
      exact e
  · rw [upd_ne pD]
    exact upd_same
  · exact upd_same
  · obtain ⟨sm, h1, h2⟩ := hP
    rw [List.getElem?_map] at hx
    obtain ⟨n, hn, rfl⟩ := Option.map_eq_some_iff.mp hx
    have hi : i < ns.length := (List.getElem?_eq_some_iff.mp hn).1
    refine ⟨wipe_set (by simp), ?_⟩
    refine ⟨.int n, rfl, n, rfl, _, h2, by simp; omega, fun b o e => ?_, ?_, ?_⟩
    · rw [upd_ne (ne_of_none e hD0)]
      exact sm b o e
    · rw [upd_ne pD]
      exact h1
    · rw [upd_same, List.take_add_one, hn, List.map_append]
      rfl
  · obtain ⟨sm, h1, h2⟩ := hP
    rw [List.length_map, List.take_length] at h2
    exact state_rest (X := X) hlen sm hD0 h2 q
theorem unL {K : PySem.W.Frag} {c : Cfg} : ∀ n : Nat, HoldsL K c (List.replicate n Slot.un) (List.replicate n none) []
  | 0 => .nil
  | n + 1 => by
    have q : HoldsL K c (Slot.un :: List.replicate n Slot.un) (none :: List.replicate n none) ([] ++ []) := .cons rfl (unL n)
    rw [List.replicate_succ, List.replicate_succ]
    exact q
/-- a law behind its first statement -/
theorem law_rest {X : Cx} {Q : VK} {H : Hp} {s p b : Addr} {ms : List Int} {f : SM} {n : Nat} {nx bk ct : St → Hp → Prop} {S' : List Slot} (ne : p ≠ b) (ep : H p = some (.lst [.int 0, .ref b])) (eb : H b = some (.lst (ms.map V.int)))
    (er : f (.un :: .drw p 0 ms :: List.replicate n .un) = .rt (.bool true) S') (q : ∀ H', Q (.bl true) H') : tS (gx X W0) f ⟨nx, Q, bk, ct⟩ (some (.ref s) :: some (.ref p) :: List.replicate n none) H := by
  refine ⟨.un :: .drw p 0 ms :: List.replicate n .un, fun _ => none, [p, b], ⟨?_, by simp [ne], fun c m => rfl, fun c o e => by cases e⟩, ?_⟩
  · have h : HoldsL X.K ⟨fun _ => none, H, [p, b]⟩ (.un :: .drw p 0 ms :: List.replicate n .un) (some (.ref s) :: some (.ref p) :: List.replicate n none) ([] ++ ([p, b] ++ [])) := .cons rfl (.cons ⟨b, rfl, rfl, ep, eb⟩ (unL n))
    exact h
  · rw [er]
    intro σ' c' v st hh rv
    cases rv
    exact q c'.H
theorem fun_of {K : PySem.W.Frag} {x q : Str} {st : Stmt} {f : Addr} {fd : FuncData} (F : FunD K x q (defArgs st) (defBody st) (defScope st) [] [] f fd) : Fun K x q st f fd := by
  obtain ⟨oc, od, dV, kV, doc, pm, an, cdv, ct, osl, rfl, lk, hcd, hD, hK⟩ := F.ex
  rcases hD with ⟨_, rfl⟩ | ⟨e, _⟩
  · exact ⟨⟨oc, od, kV, doc, pm, an, cdv, ct, osl, rfl, lk, hcd⟩, F.kp⟩
  · exact absurd rfl e
end FW

/-! FwS: plain reasoning about what a def means: the way from what is wanted behind to what must hold ahead. -/
namespace FW
open PySem PySem.Spec L2
open PyProof.Rows hiding St
/-- the expression goes, and what it leaves is so -/
def Ep {α : Type} (m : EM α) (S : List Slot) (P : α → List Slot → Prop) : Prop := ∃ a S', m S = .ok a S' ∧ P a S'
/-- an end that is no exception -/
def okO : Out → Bool
  | .ex _ _ => false
  | .bad => false
  | _ => true
/-- the statement's end is so -/
def Wp (f : SM) (S : List Slot) (Q : Out → Prop) : Prop := okO (f S) = true ∧ Q (f S)
section
variable {α β : Type} {S : List Slot} {P : α → List Slot → Prop} {PD : D → List Slot → Prop} {PL : List D → List Slot → Prop} {PB : Bool → List Slot → Prop} {Q : Out → Prop}
theorem Ep.mono {m : EM α} {P' : α → List Slot → Prop} (h : Ep m S P) (i : ∀ a S', P a S' → P' a S') : Ep m S P' := by
  obtain ⟨a, S', e, p⟩ := h
  exact ⟨a, S', e, i a S' p⟩
theorem Ep_ret (a : α) : Ep (eRet a) S P = P a S := propext ⟨fun ⟨_, _, e, p⟩ => (by cases e; exact p), fun p => ⟨a, S, rfl, p⟩⟩
theorem Ep_opt (o : Option α) : Ep (eOpt o) S P = ∃ a, o = some a ∧ P a S := by
  cases o with
  | none => exact propext ⟨fun ⟨_, _, e, _⟩ => (nomatch (show (Er.bad : Er α) = _ from e)), fun ⟨_, e, _⟩ => (nomatch e)⟩
  | some a => exact propext ⟨fun ⟨_, _, e, p⟩ => (by cases e; exact ⟨a, rfl, p⟩), fun ⟨_, e, p⟩ => (by cases e; exact ⟨a, S, rfl, p⟩)⟩
theorem Ep_bind {m : EM α} {g : α → EM β} {PB : β → List Slot → Prop} : Ep (eBind m g) S PB = Ep m S fun a S1 => Ep (g a) S1 PB := by
  unfold Ep eBind
  cases e : m S with
  | ok a S' => exact propext ⟨fun h => ⟨a, S', rfl, h⟩, fun ⟨_, _, e2, h⟩ => (by cases e2; exact h)⟩
  | ex x S' => exact propext ⟨fun ⟨_, _, e2, _⟩ => (nomatch e2), fun ⟨_, _, e2, _⟩ => (nomatch e2)⟩
  | bad => exact propext ⟨fun ⟨_, _, e2, _⟩ => (nomatch e2), fun ⟨_, _, e2, _⟩ => (nomatch e2)⟩
theorem Ep_bad : Ep (fun _ => .bad) S P = False := propext ⟨fun ⟨_, _, e, _⟩ => (nomatch e), False.elim⟩
theorem Ep_ite {c : Prop} [Decidable c] {a b : EM α} : Ep (if c then a else b) S P = if c then Ep a S P else Ep b S P := by split <;> rfl
theorem Ep_C (d : D) : Ep (eC d) S PD = PD d S := Ep_ret d
theorem Ep_nil : Ep aNil S PL = PL [] S := Ep_ret []
theorem Ep_no {PO : Option Int → List Slot → Prop} : Ep oNo S PO = PO none S := Ep_ret none
theorem Ep_some {f : EM D} {PO : Option Int → List Slot → Prop} : Ep (oSome f) S PO = Ep f S fun d S1 => ∃ i, asI d = some i ∧ PO (some i) S1 := by
  unfold oSome
  simp only [Ep_bind, Ep_opt, Ep_ret]
theorem Ep_yes : Ep bYes S PB = PB true S := Ep_ret true
theorem Ep_V {i : Nat} {d : D} (h : S[i]? = some (.dat d)) : Ep (eV i) S PD = PD d S := by
  have e : eV i S = .ok d S := by unfold eV; rw [h]
  exact propext ⟨fun ⟨_, _, e2, p⟩ => (by rw [e] at e2; cases e2; exact p), fun p => ⟨d, S, e, p⟩⟩
theorem Ep_Vo {i : Nat} {ds : List D} (h : S[i]? = some (.own ds)) : Ep (eV i) S PD = PD (.list ds) (S.set i (.dat (.list ds))) := by
  have e : eV i S = .ok (.list ds) (S.set i (.dat (.list ds))) := by unfold eV; rw [h]
  exact propext ⟨fun ⟨_, _, e2, p⟩ => (by rw [e] at e2; cases e2; exact p), fun p => ⟨_, _, e, p⟩⟩
theorem Ep_Vd {i : Nat} {t : Bool} {es : List (D × D)} (h : S[i]? = some (.dic t es)) : Ep (eV i) S PD = PD (dictD t es) (S.set i (.dat (dictD t es))) := by
  have e : eV i S = .ok (dictD t es) (S.set i (.dat (dictD t es))) := by unfold eV; rw [h]
  exact propext ⟨fun ⟨_, _, e2, p⟩ => (by rw [e] at e2; cases e2; exact p), fun p => ⟨_, _, e, p⟩⟩
theorem Ep_VO {i : Nat} {d : D} (h : slotAt S i = some d) : Ep (eVO i) S PD = PD d S := by
  have e : eVO i S = .ok d S := by unfold eVO; rw [h]
  exact propext ⟨fun ⟨_, _, e2, p⟩ => (by rw [e] at e2; cases e2; exact p), fun p => ⟨_, _, e, p⟩⟩
theorem Ep_cons {f : EM D} {g : EM (List D)} : Ep (aCons f g) S PL = Ep f S fun d S1 => Ep g S1 fun ds S2 => PL (d :: ds) S2 := by
  unfold aCons
  simp only [Ep_bind, Ep_ret]
theorem Ep_bin {op : D → D → Option D} {fa fb : EM D} : Ep (eBin op fa fb) S PD = Ep fa S fun a S1 => Ep fb S1 fun b S2 => ∃ d, op a b = some d ∧ PD d S2 := by
  unfold eBin
  simp only [Ep_bind, Ep_opt]
theorem Ep_un {op : D → Option D} {fa : EM D} : Ep (eUn op fa) S PD = Ep fa S fun a S1 => ∃ d, op a = some d ∧ PD d S1 := by
  unfold eUn
  simp only [Ep_bind, Ep_opt]
theorem Ep_ix {fa fb : EM D} : Ep (eIx fa fb) S PD = Ep fa S fun a S1 => Ep fb S1 fun b S2 => ∃ d, ixD a b = some d ∧ PD d S2 := Ep_bin
theorem Ep_B {g : List D → Option D} {fa : EM (List D)} : Ep (eB g fa) S PD = Ep fa S fun a S1 => ∃ d, g a = some d ∧ PD d S1 := by
  unfold eB
  simp only [Ep_bind, Ep_opt]
theorem Ep_BF {g : List D → Option (List D)} {fa : EM (List D)} : Ep (eBF g fa) S PL = Ep fa S fun a S1 => ∃ d, g a = some d ∧ PL d S1 := by
  unfold eBF
  simp only [Ep_bind, Ep_opt]
theorem Ep_BO {g : List D → Option D} {i : Nat} {d0 : D} (h : slotAt S i = some d0) : Ep (eBO g i) S PD = ∃ d, g [d0] = some d ∧ PD d S := by
  have e : eBO g i S = eOpt (g [d0]) S := by unfold eBO; rw [h]
  unfold Ep
  rw [e]
  exact Ep_opt _
theorem Ep_tup {fa : EM (List D)} : Ep (eTup fa) S PD = Ep fa S fun ds S1 => small ds.length = true ∧ PD (.tuple ds) S1 := by
  unfold eTup
  simp only [Ep_bind, Ep_ite, Ep_ret, Ep_bad]
  congr 1
  funext ds S1
  split
  · rename_i h; simp [h]
  · rename_i h; simp [h]
theorem Ep_lst {fa : EM (List D)} : Ep (eLst fa) S PD = Ep fa S fun ds S1 => small ds.length = true ∧ PD (.list ds) S1 := by
  unfold eLst
  simp only [Ep_bind, Ep_ite, Ep_ret, Ep_bad]
  congr 1
  funext ds S1
  split
  · rename_i h; simp [h]
  · rename_i h; simp [h]
theorem Ep_lstF {fa : EM (List D)} : Ep (eBind fa fun ds => if small ds.length then eRet ds else fun _ => .bad) S PL = Ep fa S fun ds S1 => small ds.length = true ∧ PL ds S1 := by
  simp only [Ep_bind, Ep_ite, Ep_ret, Ep_bad]
  congr 1
  funext ds S1
  split
  · rename_i h; simp [h]
  · rename_i h; simp [h]
theorem Ep_bOf {f : EM D} : Ep (bOf f) S PB = Ep f S fun d S1 => ∃ b, asB d = some b ∧ PB b S1 := by
  unfold bOf
  simp only [Ep_bind, Ep_opt]
theorem Ep_and {f g : EM Bool} : Ep (bAnd f g) S PB = Ep f S fun b S1 => if b then Ep g S1 PB else PB false S1 := by
  unfold bAnd
  simp only [Ep_bind, Ep_ite, Ep_ret]
theorem Ep_or {f g : EM Bool} : Ep (bOr f g) S PB = Ep f S fun b S1 => if b then PB true S1 else Ep g S1 PB := by
  unfold bOr
  simp only [Ep_bind, Ep_ite, Ep_ret]
theorem Ep_not {f : EM Bool} : Ep (bNot f) S PB = Ep f S fun b S1 => PB (!b) S1 := by
  unfold bNot
  simp only [Ep_bind, Ep_ret]
theorem Ep_eAnd {f g : EM D} : Ep (eAnd f g) S PD = Ep f S fun d S1 => ∃ b, d = .bool b ∧ if b then Ep g S1 PD else PD (.bool false) S1 := by
  unfold eAnd
  rw [Ep_bind]
  congr 1
  funext d S1
  cases d with
  | bool b => cases b <;> simp [Ep_ret]
  | _ => simp [Ep_bad]
theorem Ep_eOr {f g : EM D} : Ep (eOr f g) S PD = Ep f S fun d S1 => ∃ b, d = .bool b ∧ if b then PD (.bool true) S1 else Ep g S1 PD := by
  unfold eOr
  rw [Ep_bind]
  congr 1
  funext d S1
  cases d with
  | bool b => cases b <;> simp [Ep_ret]
  | _ => simp [Ep_bad]
theorem Ep_eNot {f : EM D} : Ep (eNot f) S PD = Ep f S fun d S1 => ∃ b, d = .bool b ∧ PD (.bool (!b)) S1 := by
  unfold eNot
  rw [Ep_bind]
  congr 1
  funext d S1
  cases d with
  | bool b => simp [Ep_ret]
  | _ => simp [Ep_bad]
theorem Ep_eIf {t : EM Bool} {f g : EM D} : Ep (eIf t f g) S PD = Ep t S fun b S1 => if b then Ep f S1 PD else Ep g S1 PD := by
  unfold eIf
  simp only [Ep_bind, Ep_ite]
theorem Ep_sl {f : EM D} {lo hi : EM (Option Int)} : Ep (eSl f lo hi) S PD = Ep f S fun d S1 => Ep lo S1 fun l S2 => Ep hi S2 fun h S3 => ∃ r, slD d l h = some r ∧ PD r S3 := by
  unfold eSl
  simp only [Ep_bind, Ep_opt]
theorem Ep_fz {f : EM (List D)} : Ep (eFz f) S PD = Ep f S fun ds S1 => PD (.list ds) S1 := by
  unfold eFz
  simp only [Ep_bind, Ep_ret]
/-- what a def gives back -/
def Rp1 (r : Rs) (P : D → Prop) : Prop := ∃ d, r = .ok d ∧ P d
theorem Ep_rs {r : Rs} : Ep (rs0 r) S PD = Rp1 r fun d => PD d S := by
  cases r with
  | ok d => exact propext ⟨fun ⟨_, _, e, p⟩ => (by cases e; exact ⟨d, rfl, p⟩), fun ⟨_, e, p⟩ => (by cases e; exact ⟨d, S, rfl, p⟩)⟩
  | ex e => exact propext ⟨fun ⟨_, _, e, p⟩ => (nomatch e), fun ⟨_, e, p⟩ => (nomatch e)⟩
  | bad => exact propext ⟨fun ⟨_, _, e, p⟩ => (nomatch e), fun ⟨_, e, p⟩ => (nomatch e)⟩
theorem Ep_call {m : Nat} {g : List D → Rs} {fa : EM (List D)} : Ep (eCall m g fa) S PD = Ep fa S fun ds S1 => ds.length = m ∧ Rp1 (g ds) fun d => PD d S1 := by
  unfold eCall
  simp only [Ep_bind, Ep_ite, Ep_rs, Ep_bad]
  congr 1
  funext ds S1
  split
  · rename_i h; simp [h]
  · rename_i h; simp [h]
theorem Ep_meth {cls m : Str} {k : Nat} {g : List D → Rs} {fo : EM D} {fa : EM (List D)} : Ep (eMeth cls m k g fo fa) S PD = Ep fo S fun d S1 => isOb cls m d = true ∧ Ep fa S1 fun ds S2 => ds.length = k ∧ Rp1 (g (d :: ds)) fun r => PD r S2 := by
  unfold eMeth
  simp only [Ep_bind, Ep_ite, Ep_rs, Ep_bad]
  congr 1
  funext d S1
  split
  · rename_i h
    simp only [h, true_and]
    try simp only [Ep_bind, Ep_ite, Ep_rs, Ep_bad]
    congr 1
    funext ds S2
    split
    · rename_i h; simp [h]
    · rename_i h; simp [h]
  · rename_i h; simp [h, Ep_bad]
/-! ### statements -/
theorem Wp_nx : Wp sNx S Q = Q (.nx S) := propext ⟨fun h => h.2, fun h => ⟨rfl, h⟩⟩
theorem Wp_pass : Wp sPass S Q = Q (.nx S) := propext ⟨fun h => h.2, fun h => ⟨rfl, h⟩⟩
theorem Wp_brk : Wp sBrk S Q = Q (.bk S) := propext ⟨fun h => h.2, fun h => ⟨rfl, h⟩⟩
theorem Wp_cnt : Wp sCnt S Q = Q (.ct S) := propext ⟨fun h => h.2, fun h => ⟨rfl, h⟩⟩
theorem Wp_retN : Wp sRetN S Q = Q (.rt .none S) := propext ⟨fun h => h.2, fun h => ⟨rfl, h⟩⟩
/-- what comes behind a statement -/
def nxt (g : SM) (Q : Out → Prop) : Out → Prop
  | .nx S => Wp g S Q
  | o => Q o
theorem nxt_nx {g : SM} : nxt g Q (.nx S) = Wp g S Q := rfl
theorem nxt_rt {g : SM} {d : D} : nxt g Q (.rt d S) = Q (.rt d S) := rfl
theorem nxt_bk {g : SM} : nxt g Q (.bk S) = Q (.bk S) := rfl
theorem nxt_ct {g : SM} : nxt g Q (.ct S) = Q (.ct S) := rfl
theorem Wp_seq {f g : SM} : Wp (sSeq f g) S Q = Wp f S (nxt g Q) := by
  unfold Wp sSeq
  cases f S <;> simp [okO, nxt, Wp]
theorem Wp_of {m : EM α} {k : α → List Slot → Out} : Wp (sOf m k) S Q = Ep m S fun a S1 => okO (k a S1) = true ∧ Q (k a S1) := by
  unfold Wp sOf Ep
  cases e : m S with
  | ok a S1 => exact propext ⟨fun h => ⟨a, S1, rfl, h⟩, fun ⟨_, _, e2, h⟩ => (by cases e2; exact h)⟩
  | ex x S1 => exact propext ⟨fun h => absurd h.1 (by simp [okO]), fun ⟨_, _, e2, _⟩ => (nomatch e2)⟩
  | bad => exact propext ⟨fun h => absurd h.1 (by simp [okO]), fun ⟨_, _, e2, _⟩ => (nomatch e2)⟩
theorem Wp_asg {f : EM D} {g : Tg} : Wp (sAsg f g) S Q = Ep f S fun d S1 => ∃ S2, g d S1 = some S2 ∧ Q (.nx S2) := by
  unfold sAsg
  rw [Wp_of]
  congr 1
  funext d S1
  cases g d S1 <;> simp [okO]
theorem gN_some {i : Nat} {d : D} {S2 : List Slot} : (gN i d S = some S2) = (i < S.length ∧ S.set i (.dat d) = S2) := by
  unfold gN
  split
  · rename_i h; simp [h]
  · rename_i h; simp [h]
theorem Wp_set {i : Nat} {f : EM D} : Wp (sSet i f) S Q = Ep f S fun d S1 => i < S1.length ∧ Q (.nx (S1.set i (.dat d))) := by
  unfold sSet
  rw [Wp_asg]
  congr 1
  funext d S1
  simp only [gN_some]
  exact propext ⟨fun ⟨S2, ⟨h1, h2⟩, h3⟩ => ⟨h1, h2 ▸ h3⟩, fun ⟨h1, h3⟩ => ⟨_, ⟨h1, rfl⟩, h3⟩⟩
theorem Wp_own {i : Nat} {f : EM (List D)} : Wp (sOwn i f) S Q = Ep f S fun ds S1 => i < S1.length ∧ Q (.nx (S1.set i (.own ds))) := by
  unfold sOwn
  rw [Wp_of]
  congr 1
  funext d S1
  split
  · rename_i h; simp [h, okO]
  · rename_i h; simp [h, okO]
theorem Wp_dat {i : Nat} {f : EM (List D)} : Wp (sDat i f) S Q = Ep f S fun ds S1 => i < S1.length ∧ Q (.nx (S1.set i (.dat (.list ds)))) := by
  unfold sDat
  rw [Wp_of]
  congr 1
  funext d S1
  split
  · rename_i h; simp [h, okO]
  · rename_i h; simp [h, okO]
theorem Wp_dic {i : Nat} {t : Bool} {f : EM (List (D × D))} : Wp (sDic i t f) S Q = Ep f S fun es S1 => i < S1.length ∧ Q (.nx (S1.set i (.dic t es))) := by
  unfold sDic
  rw [Wp_of]
  congr 1
  funext d S1
  split
  · rename_i h; simp [h, okO]
  · rename_i h; simp [h, okO]
theorem Wp_ret {f : EM D} : Wp (sRet f) S Q = Ep f S fun d S1 => Q (.rt d S1) := by
  unfold sRet
  rw [Wp_of]
  simp [okO]
theorem Wp_expr {f : EM D} : Wp (sExpr f) S Q = Ep f S fun d S1 => Q (.nx S1) := by
  unfold sExpr
  rw [Wp_of]
  simp [okO]
theorem Wp_if {t : EM Bool} {f g : SM} : Wp (sIf t f g) S Q = Ep t S fun b S1 => if b then Wp f S1 Q else Wp g S1 Q := by
  unfold sIf
  rw [Wp_of]
  congr 1
  funext b S1
  cases b <;> rfl
theorem Wp_par {i j : Nat} {f : EM (List D)} : Wp (sPar i j f) S Q = Ep f S fun ds S1 => ∃ S2, gTwo i j ds S1 = some S2 ∧ Q (.nx S2) := by
  unfold sPar
  rw [Wp_of]
  congr 1
  funext d S1
  cases gTwo i j d S1 <;> simp [okO]
theorem Wp_par3 {i j l : Nat} {f : EM (List D)} : Wp (sPar3 i j l f) S Q = Ep f S fun ds S1 => ∃ S2, gThree i j l ds S1 = some S2 ∧ Q (.nx S2) := by
  unfold sPar3
  rw [Wp_of]
  congr 1
  funext d S1
  cases gThree i j l d S1 <;> simp [okO]
theorem Wp_aug {i : Nat} {g : D → D → Option D} {f : EM D} : Wp (sAug i g f) S Q = (match S[i]? with | some (.dat a) => Ep f S fun b S1 => ∃ d, g a b = some d ∧ Q (.nx (S1.set i (.dat d))) | _ => False) := by
  cases e : S[i]? with
  | none => unfold Wp sAug; simp [e, okO]
  | some s =>
    cases s with
    | dat a =>
      simp only
      have q := Wp_of (m := f) (k := fun b S' => match g a b with | some d => .nx (S'.set i (.dat d)) | none => .bad) (S := S) (Q := Q)
      have h : Wp (sAug i g f) S Q = Wp (sOf f fun b S' => match g a b with | some d => .nx (S'.set i (.dat d)) | none => .bad) S Q := by
        unfold Wp sAug
        simp only [e] <;> rfl
      rw [h, q]
      congr 1
      funext d S1
      cases g a d <;> simp [okO]
    | _ => unfold Wp sAug; simp [e, okO]
theorem Wp_for {src : EM (List D)} {g : Tg} {body : SM} : Wp (sFor src g body) S Q = Ep src S fun ds S1 => Wp (fun S => forL g body ds S) S1 Q := by
  unfold sFor
  rw [Wp_of]
  rfl
theorem Wp_while {n : Nat} {t : EM Bool} {body : SM} : Wp (sWhile n t body) S Q = Wp (whileL t body n) S Q := rfl
theorem Wp_setIx {i : Nat} {fe fk : EM D} : Wp (sSetIx i fe fk) S Q = Ep fe S fun d S1 => ∃ d0, slotAt S1 i = some d0 ∧ Ep fk S1 fun k S2 => ∃ s', ((S2[i]?).bind fun s => setAtD s k d) = some s' ∧ Q (.nx (S2.set i s')) := by
  unfold sSetIx
  rw [Wp_of]
  congr 1
  funext d S1
  cases e : slotAt S1 i with
  | none => simp [okO]
  | some d0 =>
    simp only [Option.some.injEq, exists_eq_left']
    have q := Wp_of (m := fk) (k := fun k S => match (S[i]?).bind fun s => setAtD s k d with | some s' => .nx (S.set i s') | none => .bad) (S := S1) (Q := Q)
    unfold Wp at q
    refine Eq.trans (show _ = _ from rfl) (q.trans ?_)
    congr 1
    funext k S2
    cases (S2[i]?).bind fun s => setAtD s k d <;> simp [okO]
theorem ok_ex {x : α} {S0 : List Slot} : (∃ a S', (Er.ok x S0 : Er α) = .ok a S' ∧ P a S') = P x S0 := propext ⟨fun ⟨_, _, e, p⟩ => (by cases e; exact p), fun p => ⟨_, _, rfl, p⟩⟩
theorem bad_ex : (∃ a S', (Er.bad : Er α) = .ok a S' ∧ P a S') = False := propext ⟨fun ⟨_, _, e, _⟩ => (nomatch e), False.elim⟩
theorem Ep_Vm {i : Nat} : Ep (eV i) S PD = (match S[i]? with | some (.dat d) => PD d S | some (.own ds) => PD (.list ds) (S.set i (.dat (.list ds))) | some (.dic t es) => PD (dictD t es) (S.set i (.dat (dictD t es))) | _ => False) := by
  unfold Ep eV
  cases S[i]? with
  | none => exact bad_ex
  | some s => cases s <;> first | exact ok_ex | exact bad_ex
theorem Ep_mut {i : Nat} {g : List D → List D → Option (D × List D)} {fa : EM (List D)} : Ep (eMut i g fa) S PD = (match S[i]? with | some (.own _) => Ep fa S fun as S1 => (match S1[i]? with | some (.own ds) => ∃ r, g ds as = some r ∧ PD r.1 (S1.set i (.own r.2)) | _ => False) | _ => False) := by
  cases e : S[i]? with
  | none => unfold Ep eMut; simp only [e]; exact bad_ex
  | some s =>
    cases s with
    | own ds0 =>
      simp only
      have h : Ep (eMut i g fa) S PD = Ep (eBind fa (fun as S => match S[i]? with
    | some (.own ds) => (match g ds as with
      | some (d, ds') => .ok d (S.set i (.own ds'))
      | none => .bad)
    | _ => .bad)) S PD := by
        unfold Ep eMut
        simp only [e] <;> rfl
      rw [h, Ep_bind]
      congr 1
      funext as S1
      unfold Ep
      cases e1 : S1[i]? with
      | none => simp only [e1]; exact bad_ex
      | some s =>
        cases s with
        | own ds =>
          cases e2 : g ds as with
          | none => simp only [e1, e2]; rw [bad_ex]; simp
          | some r =>
            obtain ⟨d, ds'⟩ := r
            simp only [e1, e2]
            rw [ok_ex]
            simp
        | _ => simp only [e1]; exact bad_ex
    | _ => unfold Ep eMut; simp only [e]; exact bad_ex
theorem R_run {n : Nat} {b : SM} {ds : List D} {P : D → Prop} (h : Wp b (startS ds n) fun o => match o with | .rt d _ => P d | .nx _ => P .none | _ => False) : Rp1 (runF n b ds) P := by
  unfold Wp at h
  unfold runF outR Rp1
  cases e : b (startS ds n) with
  | rt d S => rw [e] at h; exact ⟨d, rfl, h.2⟩
  | nx S => rw [e] at h; exact ⟨_, rfl, h.2⟩
  | bk S => rw [e] at h; exact h.2.elim
  | ct S => rw [e] at h; exact h.2.elim
  | ex x S => rw [e] at h; exact h.2.elim
  | bad => rw [e] at h; exact h.2.elim
theorem Rp1.eq {r : Rs} {d : D} (h : Rp1 r fun x => x = d) : r = .ok d := by
  obtain ⟨x, e, rfl⟩ := h
  exact e
theorem Rp1.of {r : Rs} {d : D} {P : D → Prop} (e : r = .ok d) (p : P d) : Rp1 r P := ⟨d, e, p⟩
/-! ### loops -/
theorem for_nx {g : Tg} {body : SM} {α : Type} (st : α → List Slot) (step : α → D → α) (I : α → Prop) : ∀ (ds : List D) (s : α), I s → (∀ d ∈ ds, ∀ s, I s → I (step s d) ∧ ∃ S1, g d (st s) = some S1 ∧ Wp body S1 fun o => o = .nx (st (step s d)) ∨ o = .ct (st (step s d))) →
    forL g body ds (st s) = .nx (st (ds.foldl step s)) ∧ I (ds.foldl step s)
  | [], s, hs, _ => ⟨rfl, hs⟩
  | d :: ds, s, hs, h => by
    obtain ⟨h1, S1, e1, e2⟩ := h d List.mem_cons_self s hs
    unfold forL
    rw [e1]
    have ih := for_nx st step I ds (step s d) h1 fun d' m => h d' (List.mem_cons_of_mem _ m)
    rcases e2.2 with e2 | e2
    · simp only [e2]
      exact ih
    · simp only [e2]
      exact ih
theorem W_forL {g : Tg} {body : SM} {α : Type} {ds : List D} (st : α → List Slot) (step : α → D → α) (I : α → Prop) (s : α) (hs : I s) (h : ∀ d ∈ ds, ∀ s, I s → I (step s d) ∧ ∃ S1, g d (st s) = some S1 ∧ Wp body S1 fun o => o = .nx (st (step s d)) ∨ o = .ct (st (step s d)))
    (q : I (ds.foldl step s) → Q (.nx (st (ds.foldl step s)))) : Wp (fun S => forL g body ds S) (st s) Q := by
  obtain ⟨e, i⟩ := for_nx st step I ds s hs h
  unfold Wp
  simp only [e]
  exact ⟨rfl, q i⟩
theorem for_ix {g : Tg} {body : SM} {α : Type} (st : α → List Slot) (step : α → D → α) (I : Nat → α → Prop) (ds0 : List D) : ∀ (ds : List D) (i : Nat) (s : α), ds = ds0.drop i → I i s → (∀ i d, ds0[i]? = some d → ∀ s, I i s → I (i + 1) (step s d) ∧ ∃ S1, g d (st s) = some S1 ∧ Wp body S1 fun o => o = .nx (st (step s d)) ∨ o = .ct (st (step s d))) →
    forL g body ds (st s) = .nx (st (ds.foldl step s)) ∧ I (i + ds.length) (ds.foldl step s)
  | [], i, s, _, hs, _ => ⟨rfl, hs⟩
  | d :: ds, i, s, ed, hs, h => by
    have e0 : ds0[i]? = some d := by
      have := congrArg List.head? ed
      simpa [List.head?_drop] using this.symm
    have e3 : ds = ds0.drop (i + 1) := by
      have := congrArg List.tail ed
      simpa [List.tail_drop] using this
    obtain ⟨h1, S1, e1, e2⟩ := h i d e0 s hs
    unfold forL
    rw [e1]
    have ih := for_ix st step I ds0 ds (i + 1) (step s d) e3 h1 h
    rw [show i + 1 + ds.length = i + (d :: ds).length by simp; omega] at ih
    rcases e2.2 with e2 | e2
    · simp only [e2]
      exact ih
    · simp only [e2]
      exact ih
/-- a loop, with the number of turns so far -/
theorem W_forI {g : Tg} {body : SM} {α : Type} {ds : List D} (st : α → List Slot) (step : α → D → α) (I : Nat → α → Prop) (s : α) (hs : I 0 s) (h : ∀ i d, ds[i]? = some d → ∀ s, I i s → I (i + 1) (step s d) ∧ ∃ S1, g d (st s) = some S1 ∧ Wp body S1 fun o => o = .nx (st (step s d)) ∨ o = .ct (st (step s d)))
    (q : I ds.length (ds.foldl step s) → Q (.nx (st (ds.foldl step s)))) : Wp (fun S => forL g body ds S) (st s) Q := by
  obtain ⟨e, i⟩ := for_ix st step I ds ds 0 s rfl hs h
  rw [Nat.zero_add] at i
  unfold Wp
  simp only [e]
  exact ⟨rfl, q i⟩
/-- a block that keeps what stands beside it -/
theorem comp_map {own : List Nat} {g : Tg} {t : EM Bool} {e : EM D} (base : List Slot) (p : D → Bool) (f : D → D) : ∀ (ds : List D), (∀ d ∈ ds, ∃ S1, g d base = some S1 ∧ wipeS own S1 = base ∧ Ep t S1 fun b S2 => b = p d ∧ S2 = S1 ∧ (b = true → Ep e S1 fun y S3 => y = f d ∧ S3 = S1)) →
    compL own g t e ds base = .ok ((ds.filter p).map f) base
  | [], _ => rfl
  | d :: ds, h => by
    obtain ⟨S1, e1, e3, b, S2, e2, rfl, rfl, e4⟩ := h d List.mem_cons_self
    have ih := comp_map base p f ds fun d' m => h d' (List.mem_cons_of_mem _ m)
    unfold compL
    rw [e1]
    simp only
    rw [e2]
    cases hp : p d with
    | true =>
      obtain ⟨y, S3, e5, rfl, rfl⟩ := e4 hp
      simp only
      rw [e5]
      simp only
      rw [e3, ih, List.filter_cons_of_pos hp]
      rfl
    | false =>
      simp only
      rw [e3, ih, List.filter_cons_of_neg (by rw [hp]; simp)]
theorem E_comp {own : List Nat} {src : EM (List D)} {g : Tg} {t : EM Bool} {e : EM D} (p : D → Bool) (f : D → D) (h : Ep src S fun ds S1 => plainAt own S1 = true ∧ small ds.length = true ∧ restS own S1 (wipeS own S1) = S1 ∧
      (∀ d ∈ ds, ∃ S2, g d (wipeS own S1) = some S2 ∧ wipeS own S2 = wipeS own S1 ∧ Ep t S2 fun b S3 => b = p d ∧ S3 = S2 ∧ (b = true → Ep e S2 fun y S4 => y = f d ∧ S4 = S2)) ∧ PL ((ds.filter p).map f) S1) : Ep (eComp own src g t e) S PL := by
  obtain ⟨ds, S1, e1, hp, hs, hr, hb, q⟩ := h
  refine ⟨_, S1, ?_, q⟩
  unfold eComp
  unfold eBind
  rw [e1]
  simp only [hp, hs, Bool.and_self, if_true]
  rw [comp_map (wipeS own S1) p f ds hb]
  simp only [hr]
theorem wipe1 (v : Nat) (S : List Slot) : wipeS [v] S = S.set v .un := rfl
theorem rest1 {v : Nat} {S : List Slot} (hv : v < S.length) : restS [v] S (S.set v .un) = S := by
  unfold restS
  rw [List.getElem?_eq_getElem hv]
  show (S.set v .un).set v S[v] = S
  rw [List.set_set, List.set_getElem_self]
/-- [e for v in src if t] where nothing but v changes -/
theorem E_sel {v : Nat} {src : EM (List D)} {t : EM Bool} {e : EM D} (ds : List D) (p : D → Bool) (f : D → D) (h0 : Ep src S fun ds' S1 => ds' = ds ∧ S1 = S) (hv : v < S.length) (pl : plainAt [v] S = true) (hs : ds.length ≤ 1000000)
    (ht : ∀ d ∈ ds, Ep t (S.set v (.dat d)) fun b S3 => b = p d ∧ S3 = S.set v (.dat d)) (he : ∀ d ∈ ds, p d = true → Ep e (S.set v (.dat d)) fun y S3 => y = f d ∧ S3 = S.set v (.dat d)) (q : PL ((ds.filter p).map f) S) : Ep (eComp [v] src (gN v) t e) S PL := by
  refine E_comp p f (h0.mono fun ds' S1 h => ?_)
  obtain ⟨rfl, rfl⟩ := h
  refine ⟨pl, ?_, by rw [wipe1]; exact rest1 hv, fun d hd => ⟨S1.set v (.dat d), ?_, ?_, ?_⟩, q⟩
  · have : (1000000 : Nat) ≤ sizeLine := by decide
    unfold small
    simp
    omega
  · rw [wipe1]
    unfold gN
    rw [if_pos (by rw [List.length_set]; exact hv), List.set_set]
  · rw [wipe1, wipe1, List.set_set]
  · refine (ht d hd).mono fun b S3 h => ?_
    obtain ⟨rfl, rfl⟩ := h
    exact ⟨rfl, rfl, fun hb => he d hd hb⟩
/-- [e for v in src] -/
theorem E_map {v : Nat} {src : EM (List D)} {e : EM D} (ds : List D) (f : D → D) (h0 : Ep src S fun ds' S1 => ds' = ds ∧ S1 = S) (hv : v < S.length) (pl : plainAt [v] S = true) (hs : ds.length ≤ 1000000)
    (he : ∀ d ∈ ds, Ep e (S.set v (.dat d)) fun y S3 => y = f d ∧ S3 = S.set v (.dat d)) (q : PL (ds.map f) S) : Ep (eComp [v] src (gN v) bYes e) S PL := by
  refine E_sel ds (fun _ => true) f h0 hv pl hs (fun d _ => ?_) (fun d hd _ => he d hd) ?_
  · rw [Ep_yes]
    exact ⟨rfl, rfl⟩
  · rw [List.filter_eq_self.mpr fun _ _ => rfl]
    exact q
/-- .. over a range -/
theorem E_mapR {v : Nat} {src : EM (List D)} {e : EM D} (n : Nat) (f : Nat → D) (h0 : Ep src S fun ds' S1 => ds' = (List.range n).map (fun i => PyData.int (i : Nat)) ∧ S1 = S) (hv : v < S.length) (pl : plainAt [v] S = true) (hs : n ≤ 1000000)
    (he : ∀ i, i < n → Ep e (S.set v (.dat (.int (i : Nat)))) fun y S3 => y = f i ∧ S3 = S.set v (.dat (.int (i : Nat)))) (q : PL ((List.range n).map f) S) : Ep (eComp [v] src (gN v) bYes e) S PL := by
  refine E_map _ (fun d => match d with | .int i => f i.toNat | _ => .none) h0 hv pl (by simpa using hs) (fun d hd => ?_) ?_
  · obtain ⟨i, hi, rfl⟩ := List.mem_map.mp hd
    simpa using he i (List.mem_range.mp hi)
  · rw [List.map_map]
    exact q
theorem E_selR {v : Nat} {src : EM (List D)} {t : EM Bool} {e : EM D} (n : Nat) (p : Nat → Bool) (f : Nat → D) (h0 : Ep src S fun ds' S1 => ds' = (List.range n).map (fun i => PyData.int (i : Nat)) ∧ S1 = S) (hv : v < S.length) (pl : plainAt [v] S = true) (hs : n ≤ 1000000)
    (ht : ∀ i, i < n → Ep t (S.set v (.dat (.int (i : Nat)))) fun b S3 => b = p i ∧ S3 = S.set v (.dat (.int (i : Nat))))
    (he : ∀ i, i < n → p i = true → Ep e (S.set v (.dat (.int (i : Nat)))) fun y S3 => y = f i ∧ S3 = S.set v (.dat (.int (i : Nat)))) (q : PL (((List.range n).filter p).map f) S) : Ep (eComp [v] src (gN v) t e) S PL := by
  refine E_sel _ (fun d => match d with | .int i => p i.toNat | _ => false) (fun d => match d with | .int i => f i.toNat | _ => .none) h0 hv pl (by simpa using hs) (fun d hd => ?_) (fun d hd => ?_) ?_
  · obtain ⟨i, hi, rfl⟩ := List.mem_map.mp hd
    simpa using ht i (List.mem_range.mp hi)
  · obtain ⟨i, hi, rfl⟩ := List.mem_map.mp hd
    simpa using he i (List.mem_range.mp hi)
  · rw [List.filter_map, List.map_map]
    exact q
theorem Ep_rng1 {f : EM (List D)} : Ep (iR1 f) S PL = Ep f S fun ds S1 => ∃ r, rng1 ds = some r ∧ PL r S1 := by
  unfold iR1
  simp only [Ep_bind, Ep_opt]
theorem Ep_rng2 {f : EM (List D)} : Ep (iR2 f) S PL = Ep f S fun ds S1 => ∃ r, rng2 ds = some r ∧ PL r S1 := by
  unfold iR2
  simp only [Ep_bind, Ep_opt]
theorem Ep_rng3 {f : EM (List D)} : Ep (iR3 f) S PL = Ep f S fun ds S1 => ∃ r, rng3 ds = some r ∧ PL r S1 := by
  unfold iR3
  simp only [Ep_bind, Ep_opt]
theorem Ep_iA {f : EM D} : Ep (iA f) S PL = Ep f S fun d S1 => ∃ r, walkA d = some r ∧ PL r S1 := by
  unfold iA
  simp only [Ep_bind, Ep_opt]
end
theorem modD_ii {i j : Int} (h : 0 < j) : modD (.int i) (.int j) = some (.int (i % j)) := by simp [modD, intOp, h]
theorem fdivD_ii {i j : Int} (h : 0 < j) (h2 : j < 2 ^ 200) : fdivD (.int i) (.int j) = some (.int (i / j)) := by
  have e : fdivD (.int i) (.int j) = (if 0 < j ∧ j < 2 ^ 200 then some (i / j) else none).map PyData.int := rfl
  rw [e, if_pos ⟨h, h2⟩]
  rfl
theorem addD_ii {i j : Int} : addD (.int i) (.int j) = some (.int (i + j)) := rfl
theorem subD_ii {i j : Int} : subD (.int i) (.int j) = some (.int (i - j)) := rfl
theorem mulD_ii {i j : Int} (h : -(2 ^ 64) < i ∧ i < 2 ^ 64 ∨ -(2 ^ 64) < j ∧ j < 2 ^ 64) : mulD (.int i) (.int j) = some (.int (i * j)) := by
  have e : mulD (.int i) (.int j) = (if (-(2 ^ 64) < i ∧ i < 2 ^ 64) ∨ (-(2 ^ 64) < j ∧ j < 2 ^ 64) then some (.int (i * j)) else none) := rfl
  rw [e, if_pos h]
theorem appD_one {ds : List D} {a : D} (h : ds.length < sizeLine) : appD ds [a] = some (.none, ds ++ [a]) := by simp [appD, h]
theorem small_of {n : Nat} (h : n ≤ 1000000) : small n = true := by
  have : (1000000 : Nat) ≤ sizeLine := by decide
  unfold small
  simp
  omega
theorem size_of {n : Nat} (h : n < 1000000) : n < sizeLine := by
  have : (1000000 : Nat) ≤ sizeLine := by decide
  omega
theorem ltD_ii {i j : Int} : ltD (.int i) (.int j) = some (.bool (decide (i < j))) := rfl
theorem leD_ii {i j : Int} : leD (.int i) (.int j) = some (.bool (decide (i ≤ j))) := rfl
theorem gtD_ii {i j : Int} : gtD (.int i) (.int j) = some (.bool (decide (j < i))) := rfl
theorem geD_ii {i j : Int} : geD (.int i) (.int j) = some (.bool (decide (j ≤ i))) := rfl
theorem eqD_ii {i j : Int} : eqD (.int i) (.int j) = some (.bool (decide (i = j))) := by
  have e : eqD (.int i) (.int j) = some (.bool (PyData.eqv (.int i) (.int j))) := rfl
  rw [e]
  congr 2
theorem neD_ii {i j : Int} : neD (.int i) (.int j) = some (.bool (!decide (i = j))) := by
  have e : neD (.int i) (.int j) = some (.bool (!PyData.eqv (.int i) (.int j))) := rfl
  rw [e]
  congr 2
theorem lenD_l {ds : List D} : lenD [.list ds] = some (.int ds.length) := rfl
theorem lenD_t {ds : List D} : lenD [.tuple ds] = some (.int ds.length) := rfl
theorem ixD_l {ds : List D} {i : Nat} {d : D} (h : ds[i]? = some d) : ixD (.list ds) (.int i) = some d := atI_nat h
theorem ixD_t {ds : List D} {i : Nat} {d : D} (h : ds[i]? = some d) : ixD (.tuple ds) (.int i) = some d := atI_nat h
theorem rng1_ok {n : Nat} (h : n < 2 ^ 62) : rng1 [.int n] = some ((List.range n).map fun i => .int (i : Nat)) := by
  have e : rng1 [.int n] = (if big62 n then some (intsD 0 (n : Int).toNat) else none) := rfl
  have b : big62 n = true := by
    unfold big62
    simp
    omega
  rw [e, if_pos b]
  unfold intsD
  simp
end FW

/-! FwU: plain reasoning about instances. -/
namespace FW
open PySem PySem.Spec L2
open PyProof.Rows hiding St
section
variable {S : List Slot} {PD : D → List Slot → Prop} {Q : Out → Prop}
theorem W_fld {i : Nat} {cls f : Str} {fe : EM D} (h : Ep fe S fun d S1 => ∃ a dx ns ds, S1[i]? = some (.obj a dx cls ns ds) ∧ ns.contains f = false ∧ ns.length < 1000 ∧ Q (.nx (S1.set i (.obj a dx cls (ns ++ [f]) (ds ++ [d]))))) : Wp (sFldSet i cls f fe) S Q := by
  unfold sFldSet
  rw [Wp_of]
  refine h.mono fun d S1 q => ?_
  obtain ⟨a, dx, ns, ds, e, h1, h2, q⟩ := q
  have hc : clsAt cls S1 i = true := by unfold clsAt; rw [e]; simp
  have hp : (S1[i]?).bind (putO f d) = some (.obj a dx cls (ns ++ [f]) (ds ++ [d])) := by
    rw [e]
    have : ¬ 1000 ≤ ns.length := by omega
    simp only [Option.bind_some, putO, h1, this, decide_false, Bool.or_self, Bool.false_eq_true, if_false]
  rw [if_pos hc, hp]
  exact ⟨rfl, q⟩
theorem g_fld {i : Nat} {cls f : Str} {d : D} {a dx : Addr} {ns : List Str} {ds : List D} (e : S[i]? = some (.obj a dx cls ns ds)) (h1 : ns.contains f = false) (h2 : ns.length < 1000) : gFld i cls f d S = some (S.set i (.obj a dx cls (ns ++ [f]) (ds ++ [d]))) := by
  have hc : clsAt cls S i = true := by unfold clsAt; rw [e]; simp
  have hp : (S[i]?).bind (putO f d) = some (.obj a dx cls (ns ++ [f]) (ds ++ [d])) := by
    rw [e]
    have : ¬ 1000 ≤ ns.length := by omega
    simp only [Option.bind_some, putO, h1, this, decide_false, Bool.or_self, Bool.false_eq_true, if_false]
  unfold gFld
  rw [if_pos hc, hp]
  rfl
theorem E_methO {i : Nat} {cls m : Str} {k : Nat} {g : List D → Rs} {fa : EM (List D)} {a dx : Addr} {ns : List Str} {ds : List D} (e : S[i]? = some (.obj a dx cls ns ds)) (h1 : ns.contains m = false)
    (h : Ep fa S fun as S1 => S1[i]? = some (.obj a dx cls ns ds) ∧ as.length = k ∧ ∃ n, g (obD cls ns ds :: as) = .ok (.int n) ∧ PD (.int n) S1) : Ep (eMethO i cls m k g fa) S PD := by
  have e0 : eMethO i cls m k g fa S = eBind fa (fun as S => match S[i]? with
    | some (.obj _ _ c ns ds) => if c = cls ∧ as.length = k then (match g (obD c ns ds :: as) with
      | .ok (.int n) => .ok (.int n) S
      | _ => .bad) else .bad
    | _ => .bad) S := by
    unfold eMethO
    rw [e]
    simp only [h1, and_self, if_true] <;> rfl
  have e1 : Ep (eBind fa (fun as S => match S[i]? with
    | some (.obj _ _ c ns ds) => if c = cls ∧ as.length = k then (match g (obD c ns ds :: as) with
      | .ok (.int n) => .ok (.int n) S
      | _ => .bad) else .bad
    | _ => .bad)) S PD := by
    rw [Ep_bind]
    refine h.mono fun as S1 q => ?_
    obtain ⟨q1, q2, n, q3, q4⟩ := q
    refine ⟨.int n, S1, ?_, q4⟩
    simp only [q1, q2, and_self, if_true, q3]
  obtain ⟨d, S2, e2, p⟩ := e1
  exact ⟨d, S2, e0.trans e2, p⟩
theorem Ep_kget {tab : List (Int × List Int)} {fk fx : EM D} : Ep (eKGet tab fk fx) S PD = Ep fk S fun k S1 => Ep fx S1 fun x S2 => ∃ i, k = .int i ∧ PD (tabD tab i x) S2 := by
  unfold eKGet
  simp only [Ep_bind]
  congr 1
  funext k S1
  congr 1
  funext x S2
  cases k <;> simp [Ep_ret, Ep_bad]
theorem Ep_make {cls : Str} {k : Nat} {g : List D → Option (List Str × List D)} {fa : EM (List D)} : Ep (eMake cls k g fa) S PD = Ep fa S fun as S1 => as.length = k ∧ ∃ ns ds, g as = some (ns, ds) ∧ PD (obD cls ns ds) S1 := by
  unfold eMake
  simp only [Ep_bind, Ep_ite, Ep_bad]
  congr 1
  funext as S1
  split
  · rename_i h
    cases e : g as with
    | none => simp [h, Ep_bad]
    | some p =>
      obtain ⟨ns, ds⟩ := p
      simp only [h, Ep_ret, true_and]
      exact propext ⟨fun q => ⟨_, _, rfl, q⟩, fun ⟨_, _, q1, q2⟩ => (by cases q1; exact q2)⟩
  · rename_i h; simp [h]
/-- what a def that makes an object leaves -/
theorem I_run {n : Nat} {body : SM} {cls : Str} {a dx : Addr} {as : List D} {ns : List Str} {ds : List D} (h : Wp body (.obj a dx cls [] [] :: startS as (n - 1)) fun o => ∃ S, o = .nx (.obj a dx cls ns ds :: S)) : runI n body cls a dx as = some (ns, ds) := by
  obtain ⟨_, S, e⟩ := h
  unfold runI
  rw [e]
  unfold outI
  simp
theorem Ep_idx {fo fk : EM D} : Ep (eIdx fo fk) S PD = Ep fo S fun d S1 => ∃ ds, d = .list ds ∧ Ep fk S1 fun k S2 => ∃ r, idxD (.list ds) k = some r ∧ PD r S2 := by
  unfold eIdx
  simp only [Ep_bind]
  congr 1
  funext d S1
  cases d with
  | list ds =>
    simp only [Ep_ret, Ep_bind, Ep_opt]
    exact propext ⟨fun q => ⟨ds, rfl, q⟩, fun ⟨_, e, q⟩ => (by cases e; exact q)⟩
  | _ => simp [Ep_bad]
/-! ### while -/
theorem while_n {t : EM Bool} {body : SM} (st : Nat → List Slot) (k : Nat) (ht : ∀ i, i < k → Ep t (st i) fun b S1 => b = true ∧ S1 = st i) (hb : ∀ i, i < k → Wp body (st i) fun o => o = .nx (st (i + 1)) ∨ o = .ct (st (i + 1))) (he : Ep t (st k) fun b S1 => b = false ∧ S1 = st k) :
    ∀ (j n : Nat), j ≤ k → k - j < n → whileL t body n (st j) = .nx (st k) := by
  intro j n hj hn
  induction n generalizing j with
  | zero => omega
  | succ n ih =>
    by_cases e : j = k
    · subst e
      obtain ⟨b, S1, e1, rfl, rfl⟩ := he
      unfold whileL
      rw [e1]
    · obtain ⟨b, S1, e1, rfl, rfl⟩ := ht j (by omega)
      obtain ⟨_, e2⟩ := hb j (by omega)
      unfold whileL
      rw [e1]
      rcases e2 with e2 | e2
      · simp only [e2]
        exact ih (j + 1) (by omega) (by omega)
      · simp only [e2]
        exact ih (j + 1) (by omega) (by omega)
/-- a loop that goes k times -/
theorem W_whileN {n : Nat} {t : EM Bool} {body : SM} (st : Nat → List Slot) (k : Nat) (hs : S = st 0) (hk : k < n) (ht : ∀ i, i < k → Ep t (st i) fun b S1 => b = true ∧ S1 = st i) (hb : ∀ i, i < k → Wp body (st i) fun o => o = .nx (st (i + 1)) ∨ o = .ct (st (i + 1))) (he : Ep t (st k) fun b S1 => b = false ∧ S1 = st k) (q : Q (.nx (st k))) : Wp (whileL t body n) S Q := by
  subst hs
  have e := while_n st k ht hb he 0 n (by omega) (by omega)
  unfold Wp
  rw [e]
  exact ⟨rfl, q⟩
end
/-! ### rows of small numbers -/
def nI (k : Nat) : D := .int (k : Nat)
theorem nI_eq (k : Nat) : nI k = .int (k : Nat) := rfl
/-- a list or a tuple of numbers -/
def Row (d : D) (xs : List Nat) : Prop := d = .list (xs.map nI) ∨ d = .tuple (xs.map nI)
theorem getN {xs : List Nat} {k : Nat} (h : k < xs.length) : (xs.map nI)[k]? = some (nI (xs.getD k 0)) := by
  rw [List.getElem?_map, List.getElem?_eq_getElem h, List.getD_eq_getElem?_getD, List.getElem?_eq_getElem h]
  rfl
theorem Row.len {d : D} {xs : List Nat} (h : Row d xs) : lenD [d] = some (.int xs.length) := by
  rcases h with rfl | rfl
  · rw [lenD_l, List.length_map]
  · rw [lenD_t, List.length_map]
theorem Row.ix {d : D} {xs : List Nat} (h : Row d xs) {k : Nat} (hk : k < xs.length) : ixD d (.int k) = some (.int (xs.getD k 0 : Nat)) := by
  rcases h with rfl | rfl
  · exact ixD_l (getN hk)
  · exact ixD_t (getN hk)
theorem Row.walk {d : D} {xs : List Nat} (h : Row d xs) : walkA d = some (xs.map nI) := by
  rcases h with rfl | rfl <;> rfl
theorem rng2_ok {i j : Nat} (hi : i < 2 ^ 62) (h : j < 2 ^ 62) : rng2 [.int i, .int j] = some ((List.range (j - i)).map fun k => nI (i + k)) := by
  have e : rng2 [.int i, .int j] = (if big62 i && big62 j then some (intsD i ((j : Int) - i).toNat) else none) := rfl
  have b : (big62 i && big62 j) = true := by
    unfold big62
    simp
    omega
  rw [e, if_pos b]
  unfold intsD nI
  have : ((j : Int) - i).toNat = j - i := by omega
  rw [this]
  rfl
theorem rng2_1 {j : Nat} (h : j < 2 ^ 62) : rng2 [.int 1, .int j] = some ((List.range (j - 1)).map fun k => nI (1 + k)) := rng2_ok (i := 1) (by decide) h
/-- the first place of a number in a row -/
theorem idx_first {n : Nat} {g : Nat → Nat} {v j : Nat} (hj : j < n) (h1 : g j = v) (h2 : ∀ i, i < j → g i ≠ v) : idxD (.list ((List.range n).map fun c => .int (g c : Nat))) (.int (v : Nat)) = some (.int (j : Nat)) := by
  have e : (List.range n).map (fun c => PyData.int (g c : Nat)) = ((List.range n).map fun c => ((g c : Nat) : Int)).map PyData.int := by rw [List.map_map]; rfl
  rw [e]
  have e2 : idxD (.list (((List.range n).map fun c => ((g c : Nat) : Int)).map PyData.int)) (.int (v : Nat)) = (allI (((List.range n).map fun c => ((g c : Nat) : Int)).map PyData.int)).bind fun ns => (ns.findIdx? fun m => decide (m = ((v : Nat) : Int))).map fun j => .int (j : Nat) := rfl
  rw [e2, allI_map]
  have e3 : ((List.range n).map fun c => ((g c : Nat) : Int)).findIdx? (fun m => decide (m = ((v : Nat) : Int))) = some j := by
    rw [List.findIdx?_eq_some_iff_getElem]
    refine ⟨by simpa using hj, by simp [h1], fun i hi => ?_⟩
    have := h2 i hi
    simp
    omega
  rw [Option.bind_some, e3]
  rfl
end FW

/-! FwV: the same plain reasoning, from the top down: what comes behind is not looked at before it is reached. -/
namespace FW
open PySem PySem.Spec L2
open PyProof.Rows hiding St
universe uu
abbrev PropOf {β : Sort uu} (_ : β) : Type := Prop
def OpK {α : Type} (o : Option α) (P : α → Prop) : PropOf P := ∃ a, o = some a ∧ P a
def AndK (c X : Prop) : PropOf X := c ∧ X
def RsK (r : Rs) (P : D → Prop) : PropOf P := ∃ d, r = .ok d ∧ P d
abbrev PropOf2 (_ _ : Prop) : Type := Prop
def IteK (b : Bool) (X Y : Prop) : PropOf2 X Y := if b then X else Y
theorem IteK_t {X Y : Prop} : IteK true X Y = X := rfl
theorem IteK_f {X Y : Prop} : IteK false X Y = Y := rfl
theorem OpK_some {α : Type} {a : α} {P : α → Prop} : OpK (some a) P = P a := propext ⟨fun ⟨_, e, p⟩ => (by cases e; exact p), fun p => ⟨a, rfl, p⟩⟩
theorem AndK_t {X : Prop} : AndK True X = X := propext ⟨fun h => h.2, fun h => ⟨trivial, h⟩⟩
theorem RsK_ok {d : D} {P : D → Prop} : RsK (.ok d) P = P d := propext ⟨fun ⟨_, e, p⟩ => (by cases e; exact p), fun p => ⟨d, rfl, p⟩⟩
theorem OpK.of {α : Type} {o : Option α} {a : α} {P : α → Prop} (e : o = some a) (p : P a) : OpK o P := ⟨a, e, p⟩
theorem AndK.of {c X : Prop} (h : c) (x : X) : AndK c X := ⟨h, x⟩
theorem RsK.of {r : Rs} {d : D} {P : D → Prop} (e : r = .ok d) (p : P d) : RsK r P := ⟨d, e, p⟩
/-- as Ep and Wp, but what comes behind is not looked into -/
def EpK {α : Type} (m : EM α) (S : List Slot) (P : α → List Slot → Prop) : PropOf P := Ep m S P
def WpK (f : SM) (S : List Slot) (Q : Out → Prop) : PropOf Q := Wp f S Q
def nxtK (g : SM) (Q : Out → Prop) : Out → Prop
  | .nx S => WpK g S Q
  | o => Q o
theorem Ep_K {α : Type} {m : EM α} {S : List Slot} {P : α → List Slot → Prop} : Ep m S P = EpK m S P := rfl
theorem Wp_K {f : SM} {S : List Slot} {Q : Out → Prop} : Wp f S Q = WpK f S Q := rfl
theorem nxtK_nx {g : SM} {S : List Slot} {Q : Out → Prop} : nxtK g Q (.nx S) = WpK g S Q := rfl
theorem nxtK_rt {g : SM} {d : D} {S : List Slot} {Q : Out → Prop} : nxtK g Q (.rt d S) = Q (.rt d S) := rfl
theorem nxtK_bk {g : SM} {S : List Slot} {Q : Out → Prop} : nxtK g Q (.bk S) = Q (.bk S) := rfl
theorem nxtK_ct {g : SM} {S : List Slot} {Q : Out → Prop} : nxtK g Q (.ct S) = Q (.ct S) := rfl
theorem nxtK_ex {g : SM} {e : Exn} {S : List Slot} {Q : Out → Prop} : nxtK g Q (.ex e S) = Q (.ex e S) := rfl
section
variable {α β : Type} {S : List Slot} {P : α → List Slot → Prop} {PD : D → List Slot → Prop} {PL : List D → List Slot → Prop} {PB : Bool → List Slot → Prop} {PM : List (D × D) → List Slot → Prop} {PO : Option Int → List Slot → Prop} {Q : Out → Prop}
/-- what stands at a place -/
def VK (o : Option Slot) (S : List Slot) (i : Nat) (PD : D → List Slot → Prop) : PropOf PD := match o with
  | some (.dat d) => PD d S
  | some (.own ds) => PD (.list ds) (S.set i (.dat (.list ds)))
  | some (.dic t es) => PD (dictD t es) (S.set i (.dat (dictD t es)))
  | _ => False
theorem VK_dat {d : D} {i : Nat} : VK (some (.dat d)) S i PD = PD d S := rfl
theorem VK_own {ds : List D} {i : Nat} : VK (some (.own ds)) S i PD = PD (.list ds) (S.set i (.dat (.list ds))) := rfl
theorem VK_dic {t : Bool} {es : List (D × D)} {i : Nat} : VK (some (.dic t es)) S i PD = PD (dictD t es) (S.set i (.dat (dictD t es))) := rfl
theorem X_V {i : Nat} : EpK (eV i) S PD = VK (S[i]?) S i PD := Ep_Vm
theorem X_ret (a : α) : EpK (eRet a) S P = P a S := Ep_ret a
theorem X_opt (o : Option α) : EpK (eOpt o) S P = OpK o fun a => P a S := Ep_opt o
theorem X_bind {m : EM α} {g : α → EM β} {PB : β → List Slot → Prop} : EpK (eBind m g) S PB = EpK m S fun a S1 => EpK (g a) S1 PB := Ep_bind
theorem X_C (d : D) : EpK (eC d) S PD = PD d S := Ep_ret d
theorem X_nil : EpK aNil S PL = PL [] S := Ep_ret []
theorem X_no : EpK oNo S PO = PO none S := Ep_ret none
theorem X_some {f : EM D} : EpK (oSome f) S PO = EpK f S fun d S1 => OpK (asI d) fun i => PO (some i) S1 := Ep_some
theorem X_yes : EpK bYes S PB = PB true S := Ep_ret true
theorem X_cons {f : EM D} {g : EM (List D)} : EpK (aCons f g) S PL = EpK f S fun d S1 => EpK g S1 fun ds S2 => PL (d :: ds) S2 := Ep_cons
theorem X_bin {op : D → D → Option D} {fa fb : EM D} : EpK (eBin op fa fb) S PD = EpK fa S fun a S1 => EpK fb S1 fun b S2 => OpK (op a b) fun d => PD d S2 := Ep_bin
theorem X_un {op : D → Option D} {fa : EM D} : EpK (eUn op fa) S PD = EpK fa S fun a S1 => OpK (op a) fun d => PD d S1 := Ep_un
theorem X_ix {fa fb : EM D} : EpK (eIx fa fb) S PD = EpK fa S fun a S1 => EpK fb S1 fun b S2 => OpK (ixD a b) fun d => PD d S2 := Ep_bin
theorem X_B {g : List D → Option D} {fa : EM (List D)} : EpK (eB g fa) S PD = EpK fa S fun a S1 => OpK (g a) fun d => PD d S1 := Ep_B
theorem X_BF {g : List D → Option (List D)} {fa : EM (List D)} : EpK (eBF g fa) S PL = EpK fa S fun a S1 => OpK (g a) fun d => PL d S1 := Ep_BF
theorem X_binF {g : D → D → Option (List D)} {fa fb : EM D} : EpK (eBinF g fa fb) S PL = EpK fa S fun a S1 => EpK fb S1 fun b S2 => OpK (g a b) fun d => PL d S2 := by
  simp only [← Ep_K, ← Wp_K]
  unfold eBinF
  simp only [Ep_bind, Ep_opt]
  rfl
theorem small_le {n : Nat} (h : n ≤ 1000000) : small n = true := small_of h
theorem X_tup {fa : EM (List D)} : EpK (eTup fa) S PD = EpK fa S fun ds S1 => AndK (small ds.length = true) (PD (.tuple ds) S1) := Ep_tup
theorem X_lst {fa : EM (List D)} : EpK (eLst fa) S PD = EpK fa S fun ds S1 => AndK (small ds.length = true) (PD (.list ds) S1) := Ep_lst
theorem X_lstF {fa : EM (List D)} : EpK (eBind fa fun ds => if small ds.length then eRet ds else fun _ => .bad) S PL = EpK fa S fun ds S1 => AndK (small ds.length = true) (PL ds S1) := Ep_lstF
theorem X_bOf {f : EM D} : EpK (bOf f) S PB = EpK f S fun d S1 => OpK (asB d) fun b => PB b S1 := Ep_bOf
theorem X_and {f g : EM Bool} : EpK (bAnd f g) S PB = EpK f S fun b S1 => IteK b (EpK g S1 PB) (PB false S1) := Ep_and
theorem X_or {f g : EM Bool} : EpK (bOr f g) S PB = EpK f S fun b S1 => IteK b (PB true S1) (EpK g S1 PB) := Ep_or
theorem X_not {f : EM Bool} : EpK (bNot f) S PB = EpK f S fun b S1 => PB (!b) S1 := Ep_not
def BoK (d : D) (P : Bool → Prop) : PropOf P := ∃ b, d = .bool b ∧ P b
theorem BoK_b {b : Bool} {P : Bool → Prop} : BoK (.bool b) P = P b := propext ⟨fun ⟨_, e, p⟩ => (by cases e; exact p), fun p => ⟨b, rfl, p⟩⟩
theorem X_eAnd {f g : EM D} : EpK (eAnd f g) S PD = EpK f S fun d S1 => BoK d fun b => IteK b (EpK g S1 PD) (PD (.bool false) S1) := Ep_eAnd
theorem X_eOr {f g : EM D} : EpK (eOr f g) S PD = EpK f S fun d S1 => BoK d fun b => IteK b (PD (.bool true) S1) (EpK g S1 PD) := Ep_eOr
theorem X_eNot {f : EM D} : EpK (eNot f) S PD = EpK f S fun d S1 => BoK d fun b => PD (.bool (!b)) S1 := Ep_eNot
theorem X_eIf {t : EM Bool} {f g : EM D} : EpK (eIf t f g) S PD = EpK t S fun b S1 => IteK b (EpK f S1 PD) (EpK g S1 PD) := Ep_eIf
theorem X_sl {f : EM D} {lo hi : EM (Option Int)} : EpK (eSl f lo hi) S PD = EpK f S fun d S1 => EpK lo S1 fun l S2 => EpK hi S2 fun h S3 => OpK (slD d l h) fun r => PD r S3 := Ep_sl
theorem X_fz {f : EM (List D)} : EpK (eFz f) S PD = EpK f S fun ds S1 => PD (.list ds) S1 := Ep_fz
theorem X_chain {g g' : D → D → Option D} {fa fb fc : EM D} : EpK (eChain g g' fa fb fc) S PD = EpK fa S fun a S1 => EpK fb S1 fun b S2 => OpK (g a b) fun k => BoK k fun t => IteK t (EpK fc S2 fun c S3 => OpK (g' b c) fun d => PD d S3) (PD (.bool false) S2) := by
  simp only [← Ep_K, ← Wp_K]
  unfold eChain
  simp only [Ep_bind, Ep_opt]
  congr 1
  funext a S1
  congr 1
  funext b S2
  unfold OpK
  congr 1
  funext k
  congr 1
  cases k with
  | bool t =>
    show _ = BoK (.bool t) _
    rw [BoK_b]
    cases t
    · exact Ep_ret _
    · simp only [Ep_bind, Ep_opt]
      rfl
  | _ => simp [BoK, Ep_bad]
theorem X_call {m : Nat} {g : List D → Rs} {fa : EM (List D)} : EpK (eCall m g fa) S PD = EpK fa S fun ds S1 => AndK (ds.length = m) (RsK (g ds) fun d => PD d S1) := Ep_call
theorem X_meth {cls m : Str} {k : Nat} {g : List D → Rs} {fo : EM D} {fa : EM (List D)} : EpK (eMeth cls m k g fo fa) S PD = EpK fo S fun d S1 => AndK (isOb cls m d = true) (EpK fa S1 fun ds S2 => AndK (ds.length = k) (RsK (g (d :: ds)) fun r => PD r S2)) := Ep_meth
theorem X_rng1 {f : EM (List D)} : EpK (iR1 f) S PL = EpK f S fun ds S1 => OpK (rng1 ds) fun r => PL r S1 := Ep_rng1
theorem X_rng2 {f : EM (List D)} : EpK (iR2 f) S PL = EpK f S fun ds S1 => OpK (rng2 ds) fun r => PL r S1 := Ep_rng2
theorem X_rng3 {f : EM (List D)} : EpK (iR3 f) S PL = EpK f S fun ds S1 => OpK (rng3 ds) fun r => PL r S1 := Ep_rng3
theorem X_iA {f : EM D} : EpK (iA f) S PL = EpK f S fun d S1 => OpK (walkA d) fun r => PL r S1 := Ep_iA
theorem X_lr1 {f : EM D} : EpK (eLr1 f) S PL = EpK f S fun d S1 => OpK (lr1 d) fun r => PL r S1 := by
  simp only [← Ep_K, ← Wp_K]
  unfold eLr1
  simp only [Ep_bind, Ep_opt]
  rfl
theorem X_lr2 {f g : EM D} : EpK (eLr2 f g) S PL = EpK f S fun d S1 => EpK g S1 fun e S2 => OpK (lr2 d e) fun r => PL r S2 := by
  simp only [← Ep_K, ← Wp_K]
  unfold eLr2
  simp only [Ep_bind, Ep_opt]
  rfl
theorem X_kget {tab : List (Int × List Int)} {fk fx : EM D} : EpK (eKGet tab fk fx) S PD = EpK fk S fun k S1 => EpK fx S1 fun x S2 => OpK (asI k) fun i => PD (tabD tab i x) S2 := by
  simp only [← Ep_K, ← Wp_K]
  rw [Ep_kget]
  congr 1
  funext k S1
  congr 1
  funext x S2
  cases k <;> simp [OpK, asI]
theorem X_make {cls : Str} {k : Nat} {g : List D → Option (List Str × List D)} {fa : EM (List D)} : EpK (eMake cls k g fa) S PD = EpK fa S fun as S1 => AndK (as.length = k) (OpK (g as) fun p => PD (obD cls p.1 p.2) S1) := by
  simp only [← Ep_K, ← Wp_K]
  rw [Ep_make]
  congr 1
  funext as S1
  unfold AndK OpK
  congr 1
  exact propext ⟨fun ⟨ns, ds, e, p⟩ => ⟨(ns, ds), e, p⟩, fun ⟨⟨ns, ds⟩, e, p⟩ => ⟨ns, ds, e, p⟩⟩
theorem X_get2 {fo fk fx : EM D} : EpK (eGet2 fo fk fx) S PD = EpK fo S fun d S1 => EpK fk S1 fun k S2 => EpK fx S2 fun x S3 => OpK (getDic d k) fun o => PD (o.getD x) S3 := by
  simp only [← Ep_K, ← Wp_K]
  unfold eGet2
  simp only [Ep_bind, Ep_opt]
  congr 1
  funext d S1
  congr 1
  funext k S2
  congr 1
  funext x S3
  unfold OpK
  cases getDic d k <;> simp
theorem X_get1 {fo fk : EM D} : EpK (eGet1 fo fk) S PD = EpK fo S fun d S1 => EpK fk S1 fun k S2 => OpK (getDic d k) fun o => PD (o.getD .none) S2 := by
  simp only [← Ep_K, ← Wp_K]
  unfold eGet1
  simp only [Ep_bind, Ep_opt]
  congr 1
  funext d S1
  congr 1
  funext k S2
  unfold OpK
  cases getDic d k <;> simp
theorem X_eDic {f : EM D} : EpK (eDic f) S PD = EpK f S fun d S1 => AndK ((dicOf d).isSome = true) (PD d S1) := by
  simp only [← Ep_K, ← Wp_K]
  unfold eDic
  simp only [Ep_bind, Ep_ite, Ep_ret, Ep_bad]
  congr 1
  funext d S1
  unfold AndK
  split
  · rename_i h; simp [h]
  · rename_i h; simp [h]
def LsK (d : D) (P : List D → Prop) : PropOf P := ∃ ds, d = .list ds ∧ P ds
theorem LsK_l {ds : List D} {P : List D → Prop} : LsK (.list ds) P = P ds := propext ⟨fun ⟨_, e, p⟩ => (by cases e; exact p), fun p => ⟨ds, rfl, p⟩⟩
theorem X_idx {fo fk : EM D} : EpK (eIdx fo fk) S PD = EpK fo S fun d S1 => LsK d fun ds => EpK fk S1 fun k S2 => OpK (idxD (.list ds) k) fun r => PD r S2 := Ep_idx
/-! what is read where it stands -/
theorem X_VO {i : Nat} : EpK (eVO i) S PD = OpK (slotAt S i) fun d => PD d S := by
  simp only [← Ep_K, ← Wp_K]
  unfold Ep eVO OpK
  cases slotAt S i with
  | none => simp
  | some d => exact propext ⟨fun ⟨_, _, e, p⟩ => (by cases e; exact ⟨_, rfl, p⟩), fun ⟨_, e, p⟩ => (by cases e; exact ⟨_, _, rfl, p⟩)⟩
theorem X_BO {g : List D → Option D} {i : Nat} : EpK (eBO g i) S PD = OpK (slotAt S i) fun d => OpK (g [d]) fun r => PD r S := by
  simp only [← Ep_K, ← Wp_K]
  cases e : slotAt S i with
  | none =>
    have : eBO g i S = .bad := by unfold eBO; rw [e]
    unfold Ep OpK
    rw [this]
    simp
  | some d => rw [Ep_BO e, OpK_some]; rfl
theorem X_BFO {g : List D → Option (List D)} {i : Nat} : EpK (eBFO g i) S PL = OpK (slotAt S i) fun d => OpK (g [d]) fun r => PL r S := by
  simp only [← Ep_K, ← Wp_K]
  cases e : slotAt S i with
  | none =>
    have : eBFO g i S = .bad := by unfold eBFO; rw [e]
    unfold Ep OpK
    rw [this]
    simp
  | some d =>
    have : eBFO g i S = eOpt (g [d]) S := by unfold eBFO; rw [e]
    rw [OpK_some]
    unfold Ep
    rw [this]
    exact Ep_opt _
theorem X_binO {g : D → D → Option D} {i : Nat} {fb : EM D} : EpK (eBinO g i fb) S PD = OpK (slotAt S i) fun _ => EpK fb S fun b S1 => OpK (slotAt S1 i) fun a => OpK (g a b) fun d => PD d S1 := by
  simp only [← Ep_K, ← Wp_K]
  cases e : slotAt S i with
  | none =>
    have : eBinO g i fb S = .bad := by unfold eBinO; rw [e]
    unfold Ep OpK
    rw [this]
    simp
  | some d =>
    rw [OpK_some]
    have h : eBinO g i fb S = eBind fb (fun b S => match slotAt S i with | some a => eOpt (g a b) S | none => .bad) S := by
      unfold eBinO
      simp only [e] <;> rfl
    have h2 : Ep (eBinO g i fb) S PD = Ep (eBind fb (fun b S => match slotAt S i with | some a => eOpt (g a b) S | none => .bad)) S PD := by unfold Ep; rw [h]
    rw [h2, Ep_bind]
    congr 1
    funext b S1
    cases e1 : slotAt S1 i with
    | none => unfold Ep OpK; simp [e1]
    | some a =>
      rw [OpK_some]
      have : Ep (fun S => match slotAt S i with | some a => eOpt (g a b) S | none => .bad) S1 PD = Ep (eOpt (g a b)) S1 PD := by
        unfold Ep
        simp only [e1]
      exact this.trans (Ep_opt _)
theorem X_ixO {i : Nat} {fb : EM D} : EpK (eIxO i fb) S PD = OpK (slotAt S i) fun _ => EpK fb S fun b S1 => OpK (slotAt S1 i) fun a => OpK (ixD a b) fun d => PD d S1 := X_binO
theorem slotAt_eq {i : Nat} : slotAt S i = (S[i]?).bind slotO := rfl
theorem slotO_own {ds : List D} : slotO (.own ds) = some (.list ds) := rfl
theorem slotO_dic {t : Bool} {es : List (D × D)} : slotO (.dic t es) = some (dictD t es) := rfl
/-! what is changed where it stands -/
def MuK (o : Option Slot) (S : List Slot) (i : Nat) (g : List D → List D → Option (D × List D)) (as : List D) (PD : D → List Slot → Prop) : PropOf PD := match o with
  | some (.own ds) => OpK (g ds as) fun r => PD r.1 (S.set i (.own r.2))
  | _ => False
theorem MuK_own {ds : List D} {i : Nat} {g : List D → List D → Option (D × List D)} {as : List D} : MuK (some (.own ds)) S i g as PD = OpK (g ds as) fun r => PD r.1 (S.set i (.own r.2)) := rfl
def OwK (o : Option Slot) (X : Prop) : PropOf X := match o with
  | some (.own _) => X
  | _ => False
theorem OwK_own {ds : List D} {X : Prop} : OwK (some (.own ds)) X = X := rfl
theorem X_mut {i : Nat} {g : List D → List D → Option (D × List D)} {fa : EM (List D)} : EpK (eMut i g fa) S PD = OwK (S[i]?) (EpK fa S fun as S1 => MuK (S1[i]?) S1 i g as PD) := Ep_mut
/-! statements -/
theorem Y_nx : WpK sNx S Q = Q (.nx S) := Wp_nx
theorem Y_pass : WpK sPass S Q = Q (.nx S) := Wp_pass
theorem Y_brk : WpK sBrk S Q = Q (.bk S) := Wp_brk
theorem Y_cnt : WpK sCnt S Q = Q (.ct S) := Wp_cnt
theorem Y_retN : WpK sRetN S Q = Q (.rt .none S) := Wp_retN
theorem Y_seq {f g : SM} : WpK (sSeq f g) S Q = WpK f S (nxtK g Q) := Wp_seq
theorem Y_asg {f : EM D} {g : Tg} : WpK (sAsg f g) S Q = EpK f S fun d S1 => OpK (g d S1) fun S2 => Q (.nx S2) := Wp_asg
theorem Y_set {i : Nat} {f : EM D} : WpK (sSet i f) S Q = EpK f S fun d S1 => AndK (i < S1.length) (Q (.nx (S1.set i (.dat d)))) := Wp_set
theorem Y_own {i : Nat} {f : EM (List D)} : WpK (sOwn i f) S Q = EpK f S fun ds S1 => AndK (i < S1.length) (Q (.nx (S1.set i (.own ds)))) := Wp_own
theorem Y_dat {i : Nat} {f : EM (List D)} : WpK (sDat i f) S Q = EpK f S fun ds S1 => AndK (i < S1.length) (Q (.nx (S1.set i (.dat (.list ds))))) := Wp_dat
theorem Y_dic {i : Nat} {t : Bool} {f : EM (List (D × D))} : WpK (sDic i t f) S Q = EpK f S fun es S1 => AndK (i < S1.length) (Q (.nx (S1.set i (.dic t es)))) := Wp_dic
theorem Y_ret {f : EM D} : WpK (sRet f) S Q = EpK f S fun d S1 => Q (.rt d S1) := Wp_ret
theorem Y_expr {f : EM D} : WpK (sExpr f) S Q = EpK f S fun d S1 => Q (.nx S1) := Wp_expr
theorem Y_if {t : EM Bool} {f g : SM} : WpK (sIf t f g) S Q = EpK t S fun b S1 => IteK b (WpK f S1 Q) (WpK g S1 Q) := Wp_if
theorem Y_par {i j : Nat} {f : EM (List D)} : WpK (sPar i j f) S Q = EpK f S fun ds S1 => OpK (gTwo i j ds S1) fun S2 => Q (.nx S2) := Wp_par
theorem Y_par3 {i j l : Nat} {f : EM (List D)} : WpK (sPar3 i j l f) S Q = EpK f S fun ds S1 => OpK (gThree i j l ds S1) fun S2 => Q (.nx S2) := Wp_par3
def AuK (o : Option Slot) (P : D → Prop) : PropOf P := match o with
  | some (.dat a) => P a
  | _ => False
theorem AuK_dat {d : D} {P : D → Prop} : AuK (some (.dat d)) P = P d := rfl
theorem Y_aug {i : Nat} {g : D → D → Option D} {f : EM D} : WpK (sAug i g f) S Q = AuK (S[i]?) fun a => EpK f S fun b S1 => OpK (g a b) fun d => Q (.nx (S1.set i (.dat d))) := Wp_aug
theorem Y_for {src : EM (List D)} {g : Tg} {body : SM} : WpK (sFor src g body) S Q = EpK src S fun ds S1 => WpK (fun S => forL g body ds S) S1 Q := Wp_for
theorem Y_while {n : Nat} {t : EM Bool} {body : SM} : WpK (sWhile n t body) S Q = WpK (whileL t body n) S Q := rfl
theorem Y_setIx {i : Nat} {fe fk : EM D} : WpK (sSetIx i fe fk) S Q = EpK fe S fun d S1 => OpK (slotAt S1 i) fun _ => EpK fk S1 fun k S2 => OpK ((S2[i]?).bind fun s => setAtD s k d) fun s' => Q (.nx (S2.set i s')) := by
  simp only [← Ep_K, ← Wp_K]
  rw [Wp_setIx]
  rfl
/-- targets -/
theorem g_N {i : Nat} {d : D} : gN i d S = if i < S.length then some (S.set i (.dat d)) else none := rfl
theorem g_two {i j : Nat} {a b : D} : gTwo i j [a, b] S = (gN i a S).bind fun S' => gN j b S' := rfl
theorem g_three {i j l : Nat} {a b c : D} : gThree i j l [a, b, c] S = (gN i a S).bind fun S' => (gN j b S').bind fun S'' => gN l c S'' := rfl
theorem g_T {n : Nat} {t : List D → List Slot → Option (List Slot)} {ds : List D} : gT t n (.tuple ds) S = if ds.length = n then t ds S else none := rfl
theorem g_L {n : Nat} {t : List D → List Slot → Option (List Slot)} {ds : List D} : gL t n (.list ds) S = if ds.length = n then t ds S else none := rfl
theorem g_nil : gsNil [] S = some S := rfl
theorem g_cons {g : Tg} {t : List D → List Slot → Option (List Slot)} {d : D} {ds : List D} : gsCons g t (d :: ds) S = (g d S).bind fun S' => t ds S' := rfl
end
theorem asB_b {b : Bool} : asB (.bool b) = some b := rfl
theorem asI_i {i : Int} : asI (.int i) = some i := rfl
theorem lt_l0 {α : Type} {a : α} {l : List α} : (0 < (a :: l).length) = True := by simp
theorem lt_ls {α : Type} {a : α} {l : List α} {i : Nat} : (i + 1 < (a :: l).length) = (i < l.length) := by simp
theorem le_l0 {α : Type} {k : Nat} : (([] : List α).length ≤ k) = True := by simp
theorem le_ls {α : Type} {a : α} {l : List α} {k : Nat} : ((a :: l).length ≤ k + 1) = (l.length ≤ k) := by simp
theorem eq_l0 {α : Type} : (([] : List α).length = 0) = True := by simp
theorem eq_ls {α : Type} {a : α} {l : List α} {k : Nat} : ((a :: l).length = k + 1) = (l.length = k) := by simp
theorem sm_l {α : Type} {l : List α} (h : l.length ≤ 1000000) : (small l.length = true) = True := by simp [small_of h]
theorem R_run2 {n : Nat} {b : SM} {ds : List D} {P : D → Prop} (h : Wp b (startS ds n) fun o => match o with | .rt d _ => P d | .nx _ => P .none | _ => False) : RsK (runF n b ds) P := R_run h
theorem RsK.eq {r : Rs} {d : D} (h : RsK r fun x => x = d) : r = .ok d := Rp1.eq h
end FW

/-! FwW: plain reasoning about the drawn numbers. -/
namespace FW
open PySem PySem.Spec L2
open PyProof.Rows hiding St
def RwK (r : Rw) (P : D → Int → List Int → Prop) : PropOf P := ∃ d k ns, r = .ok d k ns ∧ P d k ns
theorem RwK_ok {d : D} {k : Int} {ns : List Int} {P : D → Int → List Int → Prop} : RwK (.ok d k ns) P = P d k ns := propext ⟨fun ⟨_, _, _, e, p⟩ => (by cases e; exact p), fun p => ⟨d, k, ns, rfl, p⟩⟩
def DrK (o : Option Slot) (X : Prop) : PropOf X := match o with
  | some (.drw _ _ _) => X
  | _ => False
def WkK (o : Option Slot) (g : Addr → Int → List Int → List D → Rw) (ds : List D) (P : D → Addr → Int → List Int → Prop) : PropOf P := match o with
  | some (.drw a k ns) => RwK (g a k ns ds) fun d k' ns' => P d a k' ns'
  | _ => False
theorem DrK_d {a : Addr} {k : Int} {ns : List Int} {X : Prop} : DrK (some (.drw a k ns)) X = X := rfl
theorem WkK_d {a : Addr} {k : Int} {ns : List Int} {g : Addr → Int → List Int → List D → Rw} {ds : List D} {P : D → Addr → Int → List Int → Prop} : WkK (some (.drw a k ns)) g ds P = RwK (g a k ns ds) fun d k' ns' => P d a k' ns' := rfl
theorem X_W {i m : Nat} {g : Addr → Int → List Int → List D → Rw} {fa : EM (List D)} {S : List Slot} {PD : D → List Slot → Prop} : EpK (eCallW i m g fa) S PD = DrK (S[i]?) (EpK fa S fun ds S1 => AndK (ds.length + 1 = m) (WkK (S1[i]?) g ds fun d a k' ns' => PD d (S1.set i (.drw a k' ns')))) := by
  simp only [← Ep_K]
  cases e : S[i]? with
  | none => unfold Ep eCallW DrK; simp [e]
  | some s =>
    cases s with
    | drw a k ns =>
      rw [DrK_d]
      have h : Ep (eCallW i m g fa) S PD = Ep (eBind fa (fun ds S => match S[i]? with
    | some (.drw a k ns) => if ds.length + 1 = m then (match g a k ns ds with
      | .ok d k' ns' => .ok d (S.set i (.drw a k' ns'))
      | .bad => .bad) else .bad
    | _ => .bad)) S PD := by
        unfold Ep eCallW
        simp only [e] <;> rfl
      rw [h, Ep_bind]
      congr 1
      funext ds S1
      unfold Ep AndK WkK
      cases e1 : S1[i]? with
      | none => simp [e1]
      | some s1 =>
        cases s1 with
        | drw a1 k1 ns1 =>
          by_cases hm : ds.length + 1 = m
          · cases e2 : g a1 k1 ns1 ds with
            | ok d k2 ns2 =>
              simp only [e1, hm, if_true, e2, true_and]
              rw [RwK_ok]
              exact propext ⟨fun ⟨_, _, e, p⟩ => (by cases e; exact p), fun p => ⟨_, _, rfl, p⟩⟩
            | bad => simp [e1, hm, e2, RwK]
          · simp [e1, hm]
        | _ => simp [e1]
    | _ => unfold Ep eCallW DrK; simp [e]
theorem RwK_take {a : Addr} {k : Int} {ns : List Int} {n : Nat} {P : D → Int → List Int → Prop} (h : DrawOk ns) (hn : n < 2 ^ 200) (q : ∀ (r : Nat) (k' : Int) (ns' : List Int), DrawOk ns' → (1 ≤ n → r < n) → (n ≤ 1 → r = 0) → P (.int r) k' ns') : RwK (takeW a k ns [.int n]) P := by
  obtain ⟨r, k', ns', e, h1, h2, h3, h4⟩ := takeL_ok k h (m := n) (by omega)
  obtain ⟨r, rfl⟩ := Int.eq_ofNat_of_zero_le h2
  refine ⟨.int r, k', ns', ?_, q r k' ns' h1 (fun z => by have := h4 (by omega); omega) (fun z => by have := h3 (by omega); omega)⟩
  unfold takeW
  simp only [e]
theorem R_runW {n : Nat} {b : SM} {a : Addr} {k : Int} {ns : List Int} {ds : List D} {P : D → Int → List Int → Prop} (h : Wp b (.drw a k ns :: startS ds (n - 1)) fun o => ∃ d k' ns' S, o = .rt d (.drw a k' ns' :: S) ∧ P d k' ns') : RwK (runW n b a k ns ds) P := by
  obtain ⟨_, d, k', ns', S, e, p⟩ := h
  refine ⟨d, k', ns', ?_, p⟩
  unfold runW
  rw [e]
  unfold outW
  simp
/-! comprehensions that draw -/
inductive All2 (R : D → D → Prop) : List D → List D → Prop
  | nil : All2 R [] []
  | cons {d y : D} {ds ys : List D} : R d y → All2 R ds ys → All2 R (d :: ds) (y :: ys)
theorem All2.length {R : D → D → Prop} : ∀ {ds ys : List D}, All2 R ds ys → ys.length = ds.length
  | _, _, .nil => rfl
  | _, _, .cons _ h => by rw [List.length_cons, List.length_cons, h.length]
theorem set_comm {S : List Slot} {v w : Nat} {x y : Slot} (h : v ≠ w) : (S.set v x).set w y = (S.set w y).set v x := List.set_comm x y h
theorem compL_draw {v w : Nat} {e : EM D} {S : List Slot} {a : Addr} (R : D → D → Prop) (hvw : v ≠ w) (hv : v < S.length) : ∀ (ds : List D) (k : Int) (ns : List Int), DrawOk ns →
    (∀ d ∈ ds, ∀ k ns, DrawOk ns → Ep e ((S.set w (.drw a k ns)).set v (.dat d)) fun y S3 => R d y ∧ ∃ k' ns', DrawOk ns' ∧ S3 = (S.set w (.drw a k' ns')).set v (.dat d)) →
    ∃ ys k' ns', DrawOk ns' ∧ All2 R ds ys ∧ compL [v] (gN v) bYes e ds ((S.set w (.drw a k ns)).set v .un) = .ok ys ((S.set w (.drw a k' ns')).set v .un)
  | [], k, ns, hn, _ => ⟨[], k, ns, hn, .nil, rfl⟩
  | d :: ds, k, ns, hn, he => by
    obtain ⟨y, S3, e1, r, k1, ns1, hn1, rfl⟩ := he d (.head _) k ns hn
    obtain ⟨ys, k2, ns2, hn2, r2, e2⟩ := compL_draw R hvw hv ds k1 ns1 hn1 fun d' m => he d' (.tail _ m)
    refine ⟨y :: ys, k2, ns2, hn2, .cons r r2, ?_⟩
    unfold compL
    have eg : gN v d ((S.set w (.drw a k ns)).set v .un) = some ((S.set w (.drw a k ns)).set v (.dat d)) := by
      unfold gN
      rw [if_pos (by rw [List.length_set, List.length_set]; exact hv), List.set_set]
    have eb : ∀ S, bYes S = .ok true S := fun _ => rfl
    rw [eg]
    simp only [eb, e1, wipe1, List.set_set, e2]
theorem E_draws {v w : Nat} {src : EM (List D)} {e : EM D} {S : List Slot} {PL : List D → List Slot → Prop} {a : Addr} {k : Int} {ns : List Int} (ds : List D) (R : D → D → Prop) (hw : S[w]? = some (.drw a k ns)) (hn : DrawOk ns) (hvw : v ≠ w) (h0 : Ep src S fun ds' S1 => ds' = ds ∧ S1 = S) (hv : v < S.length) (pl : plainAt [v] S = true) (hs : ds.length ≤ 1000000)
    (he : ∀ d ∈ ds, ∀ k ns, DrawOk ns → Ep e ((S.set w (.drw a k ns)).set v (.dat d)) fun y S3 => R d y ∧ ∃ k' ns', DrawOk ns' ∧ S3 = (S.set w (.drw a k' ns')).set v (.dat d))
    (q : ∀ ys k' ns', DrawOk ns' → All2 R ds ys → PL ys (S.set w (.drw a k' ns'))) : Ep (eComp [v] src (gN v) bYes e) S PL := by
  obtain ⟨ds', S1, e1, rfl, rfl⟩ := h0
  obtain ⟨ys, k', ns', hn', r, e2⟩ := compL_draw (a := a) R hvw hv ds' k ns hn he
  refine ⟨ys, S1.set w (.drw a k' ns'), ?_, q ys k' ns' hn' r⟩
  have hsw : S1.set w (.drw a k ns) = S1 := by
    obtain ⟨hl, hg⟩ := List.getElem?_eq_some_iff.mp hw
    rw [← hg, List.set_getElem_self]
  have hsm : small ds'.length = true := small_of hs
  rw [hsw] at e2
  unfold eComp eBind
  rw [e1]
  simp only [pl, hsm, Bool.and_self, if_true, wipe1, e2]
  congr 1
  unfold restS
  rw [List.getElem?_eq_getElem hv]
  show ((S1.set w (.drw a k' ns')).set v .un).set v S1[v] = _
  rw [List.set_set]
  have hg : (S1.set w (.drw a k' ns'))[v]'(by rw [List.length_set]; exact hv) = S1[v] := List.getElem_set_ne (fun z => hvw z.symm) _
  conv => lhs; rw [← hg]
  exact List.set_getElem_self _
end FW

/-! FwX: two names set at once, each to data or to a list or dict of its own. -/
namespace FW
open PySem PySem.Spec L2
open PyProof.Rows hiding St
/-- a value as it comes, for a slot -/
def New (K : PySem.W.Frag) (c : Cfg) (v : V) (s : Slot) (c' : Cfg) : Option Addr → Prop
  | none => SlotOk K c s (some v) [] ∧ c' = c
  | some p => ∃ u, v = .ref p ∧ c.H p = none ∧ c' = c.tmp p u ∧ (∀ xs, u ≠ .tup xs) ∧ SlotOk K c' s (some v) [p]
/-- .. and later -/
def TK (K : PySem.W.Frag) (c : Cfg) (v : V) (s : Slot) : Option Addr → Prop
  | none => SlotOk K c s (some v) []
  | some p => ∃ u, v = .ref p ∧ p ∉ c.F ∧ c.Z p = none ∧ c.H p = some u ∧ (∀ xs, u ≠ .tup xs) ∧ SlotOk K c s (some v) [p]
theorem TK.step {K : PySem.W.Frag} {c c' : Cfg} {v : V} {s : Slot} {o : Option Addr} (t : TK K c v s o) (st : Stp c c') : TK K c' v s o := by
  cases o with
  | none => exact SlotOk.tr t st.z fun a m => nomatch m
  | some p =>
    obtain ⟨u, e, h1, h2, h3, h4, h5⟩ := t
    have hk := st.k p u h3 h1
    refine ⟨u, e, fun m => ?_, ?_, hk, h4, h5.tr st.z fun a m => ?_⟩
    · rcases st.f p m with m | m
      · exact h1 m
      · rw [h3] at m; cases m
    · cases q : c'.Z p with
      | none => rfl
      | some o =>
        exfalso
        rcases st.n p o q with m | m | m | ⟨xs, m⟩
        · rw [h2] at m; cases m
        · rw [h3] at m; cases m
        · exact h1 m
        · rw [h3] at m; cases m; exact h4 xs rfl
    · have : a = p := by simpa using m
      subst this
      rw [hk, h3]
theorem New.to {K : PySem.W.Frag} {S : List Slot} {σ : Sg} {c c' : Cfg} {v : V} {s : Slot} {o : Option Addr} (n : New K c v s c' o) (h : Holds K S σ c) : Stp c c' ∧ Holds K S σ c' ∧ TK K c' v s o ∧ ∀ p, o = some p → c.H p = none := by
  cases o with
  | none =>
    obtain ⟨n, rfl⟩ := n
    exact ⟨Stp.refl _, h, n, fun _ e => nomatch e⟩
  | some p =>
    obtain ⟨u, e, h1, rfl, h2, h3⟩ := n
    obtain ⟨st, h'⟩ := h.tmpS (o := u) h1
    exact ⟨st, h', ⟨u, e, h.nF h1, h.nf h1, upd_same, h2, h3⟩, fun q e => by cases e; exact h1⟩
/-- into its slot -/
theorem TK.put {K : PySem.W.Frag} {S : List Slot} {σ : Sg} {c : Cfg} {v : V} {s : Slot} {i : Nat} {o : Option Addr} (t : TK K c v s o) (h : Holds K S σ c) (hi : i < S.length) :
    ∃ F', (∀ b ∈ F', b ∈ c.F ∨ o = some b) ∧ Holds K (S.set i s) (σ.set i (some v)) ⟨c.Z, c.H, F'⟩ := by
  obtain ⟨A, Fi, B, x, e1, e2, _, up⟩ := h.l.at (List.getElem?_eq_getElem hi)
  have nd := h.nd
  rw [e1] at nd
  cases o with
  | none =>
    refine ⟨A ++ ([] ++ B), fun b m => .inl ?_, ⟨?_, ?_, fun a m => ?_, h.zh⟩⟩
    · rw [e1]
      simp at m ⊢
      rcases m with m | m <;> simp [m]
    · exact up ⟨c.Z, c.H, A ++ ([] ++ B)⟩ s (some v) [] (Same.refl _) (fun _ _ => rfl) t
    · show (A ++ ([] ++ B)).Nodup
      simp only [List.nodup_append, List.mem_append, List.mem_singleton, List.nodup_cons] at nd ⊢
      grind
    · have m' : a ∈ A ++ ([] ++ B) := m
      refine h.zf a ?_
      rw [e1]
      simp at m' ⊢
      rcases m' with m' | m' <;> simp [m']
  | some p =>
    obtain ⟨u, e, h1, h2, h3, h4, h5⟩ := t
    have hF := h1
    rw [e1] at hF
    simp only [List.mem_append, not_or] at hF
    refine ⟨A ++ ([p] ++ B), fun b m => ?_, ⟨?_, ?_, fun a m => ?_, h.zh⟩⟩
    · simp only [List.mem_append, List.mem_singleton] at m
      rcases m with m | m | m
      · exact .inl (by rw [e1]; simp [m])
      · subst m; exact .inr rfl
      · exact .inl (by rw [e1]; simp [m])
    · exact up ⟨c.Z, c.H, A ++ ([p] ++ B)⟩ s (some v) [p] (Same.refl _) (fun _ _ => rfl) h5
    · show (A ++ ([p] ++ B)).Nodup
      simp only [List.nodup_append, List.mem_append, List.mem_singleton, List.nodup_cons] at nd ⊢
      grind
    · have m' : a ∈ A ++ ([p] ++ B) := m
      simp only [List.mem_append, List.mem_singleton] at m'
      rcases m' with m' | m' | m'
      · exact h.zf a (by rw [e1]; simp [m'])
      · subst m'; exact h2
      · exact h.zf a (by rw [e1]; simp [m'])
section
variable {X : Cx} {W : WX} {pos : Pos}
def tK (G : Gx) (f : EM Slot) : TE := fun σ H Q => ∃ S Z F, Holds G.K S σ ⟨Z, H, F⟩ ∧ Go G σ ⟨Z, H, F⟩ (f S) (fun s _ c' => ∀ v c2 o, New G.K c' v s c2 o → Q v c2.H)
def DK (X : Cx) (W : WX) (e : Expr) (f : EM Slot) : Prop := PE X e (tK (gx X W) f)
def vD (f : EM D) : EM Slot := eBind f fun d => eRet (.dat d)
def vO (f : EM (List D)) : EM Slot := eBind f fun ds => eRet (.own ds)
def vM (t : Bool) (f : EM (List (D × D))) : EM Slot := eBind f fun es => eRet (.dic t es)
theorem dk_d {e : Expr} {f : EM D} (h : DE X W e f) : DK X W e (vD f) := by
  refine PE.wk h fun σ H Q q => ?_
  obtain ⟨S, Z, F, h, q⟩ := q
  refine ⟨S, Z, F, h, (Go.bind q).mono fun d S1 c1 s1 h1 q1 v rv => ?_⟩
  exact q1 c1 (Stp.refl _) h1 v c1 none ⟨⟨rfl, v, rfl, rv⟩, rfl⟩
theorem dk_o {e : Expr} {f : EM (List D)} (h : DF X W e f) : DK X W e (vO f) := by
  refine PE.wk h fun σ H Q q => ?_
  obtain ⟨S, Z, F, h, q⟩ := q
  refine ⟨S, Z, F, h, (Go.bind q).mono fun d S1 c1 s1 h1 q1 p vs hp rs => ?_⟩
  exact q1 c1 (Stp.refl _) h1 (.ref p) (c1.tmp p (.lst vs)) (some p) ⟨_, rfl, hp, rfl, (fun _ e => nomatch e), ⟨p, vs, rfl, rfl, upd_same, rs⟩⟩
theorem dk_m {t : Bool} {e : Expr} {f : EM (List (D × D))} (h : DM X W t e f) : DK X W e (vM t f) := by
  refine PE.wk h fun σ H Q q => ?_
  obtain ⟨S, Z, F, h, q⟩ := q
  refine ⟨S, Z, F, h, (Go.bind q).mono fun d S1 c1 s1 h1 q1 p u hp da => ?_⟩
  obtain ⟨u', e1, _, nt⟩ := da.obj
  cases e1
  refine q1 c1 (Stp.refl _) h1 (.ref p) (c1.tmp p u) (some p) ⟨_, rfl, hp, rfl, nt, ⟨p, rfl, rfl, ?_⟩⟩
  show DicAt X.K c1.Z (upd c1.H p u p) t d
  rw [upd_same]
  exact da
def sParK (i j : Nat) (f1 f2 : EM Slot) : SM := sOf f1 fun s1 S1 => sOf f2 (fun s2 S2 => if i < S2.length ∧ j < S2.length then .nx ((S2.set i s1).set j s2) else .bad) S1
theorem par_core {i j : Nat} {S2 : List Slot} {σ : Sg} {c1 c5 : Cfg} {v w : V} {s1 s2 : Slot} {o1 o2 : Option Addr} {Q : Ends} (ST : Stp c1 c5) (h5 : Holds X.K S2 σ c5) (t1 : TK X.K c5 v s1 o1) (t2 : TK X.K c5 w s2 o2)
    (dj : ∀ p, o1 = some p → o2 = some p → False) (w1 : ∀ p, o1 = some p → c1.H p = none) (w2 : ∀ p, o2 = some p → c1.H p = none) (q2 : GoS (gx X W) c1 Q (if i < S2.length ∧ j < S2.length then .nx ((S2.set i s1).set j s2) else .bad)) :
    Q.nx ((σ.set i (some v)).set j (some w)) c5.H := by
  split at q2
  rotate_left
  · exact q2.elim
  rename_i hl
  obtain ⟨F1, f1', h5⟩ := t1.put h5 hl.1
  have t2' : TK X.K ⟨c5.Z, c5.H, F1⟩ w s2 o2 := by
    cases o2 with
    | none => exact SlotOk.tr t2 (Same.refl _) fun _ _ => rfl
    | some p =>
      obtain ⟨u, e, g1, g2, g3, g4, g5⟩ := t2
      refine ⟨u, e, fun m => ?_, g2, g3, g4, g5.tr (Same.refl _) fun _ _ => rfl⟩
      rcases f1' p m with m | m
      · exact g1 m
      · exact dj p m rfl
  obtain ⟨F2, f2', h6⟩ := t2'.put h5 (by rw [List.length_set]; exact hl.2)
  refine q2 _ ⟨c5.Z, c5.H, F2⟩ ⟨ST.z, ST.k, ST.t, ST.n, fun b m => ?_⟩ h6
  rcases f2' b m with m | m
  · rcases f1' b m with m | m
    · exact ST.f b m
    · exact .inr (w1 b m)
  · exact .inr (w2 b m)
theorem par_dj {c c' c'' : Cfg} {v w : V} {s1 s2 : Slot} {o1 o2 : Option Addr} (t : TK X.K c v s1 o1) (w2 : ∀ p, o2 = some p → c.H p = none) : ∀ p, o1 = some p → o2 = some p → False := by
  intro p e1 e2
  subst e1
  obtain ⟨u, _, _, _, k6, _⟩ := t
  rw [w2 p e2] at k6
  cases k6
theorem ds_parK (i j : Nat) {x y : Str} {a b : Expr} {f1 f2 : EM Slot} {px py pt : Pos} {kt k2 pt2} (hc : X.calm = true) (hN : X.N.Nodup) (ha : DK X W a f1) (hb : DK X W b f2) (hij : i ≠ j) (hi : X.N[i]? = some x := by rfl) (hj : X.N[j]? = some y := by rfl)
    (hx : X.env.scope.names.lookup x = some .local := by rfl) (hy : X.env.scope.names.lookup y = some .local := by rfl)
    (hw : swappedStores [.Tuple [.Name x px, .Name y py] kt pt] (.Tuple [a, b] k2 pt2) X.env = pure (some [x, y]) := by rfl)
    (hs : swapsWithSole [.Tuple [.Name x px, .Name y py] kt pt] (.Tuple [a, b] k2 pt2) pos.line X.env = pure false := by rfl)
    (hsa : starEach (a :: [b]) X.env = (false, eval a X.env) :: starEach [b] X.env := by rfl) (hsb : starEach (b :: []) X.env = (false, eval b X.env) :: starEach [] X.env := by rfl) :
    DS X W (.Assign [.Tuple [.Name x px, .Name y py] kt pt] (.Tuple [a, b] k2 pt2) pos) (sParK i j f1 f2) := by
  refine PS.wk (ps_par hc hN hi hj hij hx hy (pa_cons ha (pa_cons hb pa_nil hsb) hsa) hw hs) fun Q σ H q => ?_
  obtain ⟨S, Z, F, h, q⟩ := q
  refine ⟨S, Z, F, h, Go.toS q fun s1 S1 c1 st1 h1 q1 v c2 o1 n1 => ?_⟩
  obtain ⟨st2, h2, t1, w1⟩ := n1.to h1
  refine ⟨S1, c2.Z, c2.F, h2, ?_⟩
  have q2 := q1
  unfold sOf at q2
  cases e2 : f2 S1 with
  | bad => rw [e2] at q2; exact q2.elim
  | ex e S2 =>
    rw [e2] at q2
    exact fun c' cls dx s' o x => q2 σ c' cls dx (st2.trans s') o x
  | ok s2 S2 =>
    rw [e2] at q2
    intro c3 st3 h3 w c4 o2 n2
    obtain ⟨st4, h4, t2, w2⟩ := n2.to h3
    have t3 := t1.step st3
    exact ⟨v, w, rfl, par_core ((st2.trans st3).trans st4) h4 (t3.step st4) t2 (par_dj (c' := c3) (c'' := c3) (w := w) (s2 := s2) t3 w2) w1 (fun p e => (st2.trans st3).was (w2 p e)) q2⟩
/-- .. by way of a pair -/
theorem ds_asgK (i j : Nat) {x y : Str} {a b : Expr} {f1 f2 : EM Slot} {px py pt : Pos} {kt k2 pt2} (hc : X.calm = true) (hN : X.N.Nodup) (ha : DK X W a f1) (hb : DK X W b f2) (hi : X.N[i]? = some x := by rfl) (hj : X.N[j]? = some y := by rfl)
    (hx : Loc X.env.scope x := by first | exact Or.inl rfl | exact Or.inr rfl) (hy : Loc X.env.scope y := by first | exact Or.inl rfl | exact Or.inr rfl)
    (hf : X.fn x = true ∨ X.env.scope.names.lookup x = some .local := by first | exact .inl rfl | exact .inr rfl) (hf2 : X.fn y = true ∨ X.env.scope.names.lookup y = some .local := by first | exact .inl rfl | exact .inr rfl)
    (hw : swappedStores [.Tuple [.Name x px, .Name y py] kt pt] (.Tuple [a, b] k2 pt2) X.env = pure none := by rfl)
    (hs : swapsWithSole [.Tuple [.Name x px, .Name y py] kt pt] (.Tuple [a, b] k2 pt2) pos.line X.env = pure false := by rfl)
    (h1 : (assignEach [.Tuple [.Name x px, .Name y py] kt pt] X.env).map (·.2) = [assign (.Tuple [.Name x px, .Name y py] kt pt) X.env] := by rfl)
    (hn : (assignEach [.Name x px, .Name y py] X.env).length = 2 := by rfl) (hst : (assignEach [.Name x px, .Name y py] X.env).findIdx? (·.1) = none := by rfl)
    (hp1 : (assignEach [.Name x px, .Name y py] X.env).map (·.2) = assign (.Name x px) X.env :: (assignEach [.Name y py] X.env).map (·.2) := by rfl) (hp2 : (assignEach [.Name y py] X.env).map (·.2) = assign (.Name y py) X.env :: (assignEach [] X.env).map (·.2) := by rfl)
    (hsa : starEach (a :: [b]) X.env = (false, eval a X.env) :: starEach [b] X.env := by rfl) (hsb : starEach (b :: []) X.env = (false, eval b X.env) :: starEach [] X.env := by rfl) :
    DS X W (.Assign [.Tuple [.Name x px, .Name y py] kt pt] (.Tuple [a, b] k2 pt2) pos) (sParK i j f1 f2) := by
  refine PS.wk (ps_asg (pe_tup (pa_cons ha (pa_cons hb pa_nil hsb) hsa)) (pg_tup hc (pgs_cons (pg_name hN hi hx hf) (pgs_cons (pg_name hN hj hy hf2) pgs_nil hp2) hp1) hn hst) hs hw h1) fun Q σ H q => ?_
  obtain ⟨S, Z, F, h, q⟩ := q
  refine ⟨S, Z, F, h, Go.toS q fun s1 S1 c1 st1 h1 q1 v c2 o1 n1 => ?_⟩
  obtain ⟨st2, h2, t1, w1⟩ := n1.to h1
  refine ⟨S1, c2.Z, c2.F, h2, ?_⟩
  have q2 := q1
  unfold sOf at q2
  cases e2 : f2 S1 with
  | bad => rw [e2] at q2; exact q2.elim
  | ex e S2 =>
    rw [e2] at q2
    exact fun c' cls dx s' o x => q2 σ c' cls dx (st2.trans s') o x
  | ok s2 S2 =>
    rw [e2] at q2
    intro c3 st3 h3 w c4 o2 n2
    obtain ⟨st4, h4, t2, w2⟩ := n2.to h3
    have t3 := t1.step st3
    refine ⟨show 2 ≤ sizeLine from by decide, fun r hr => ⟨r, [v, w], rfl, SqT.of upd_same, rfl, _, _, rfl, _, _, rfl, rfl, ?_⟩⟩
    obtain ⟨st5, h5⟩ := h4.tmpS (o := .tup [v, w]) hr
    exact par_core ((st2.trans st3).trans (st4.trans st5)) h5 ((t3.step st4).step st5) (t2.step st5) (par_dj (c' := c3) (c'' := c3) (w := w) (s2 := s2) t3 w2) w1 (fun p e => (st2.trans st3).was (w2 p e)) q2
end
/-! plain reasoning -/
section
variable {S : List Slot} {PS : Slot → List Slot → Prop} {Q : Out → Prop}
theorem X_vD {f : EM D} : EpK (vD f) S PS = EpK f S fun d S1 => PS (.dat d) S1 := by
  unfold vD
  simp only [← Ep_K, Ep_bind, Ep_ret]
theorem X_vO {f : EM (List D)} : EpK (vO f) S PS = EpK f S fun d S1 => PS (.own d) S1 := by
  unfold vO
  simp only [← Ep_K, Ep_bind, Ep_ret]
theorem X_vM {t : Bool} {f : EM (List (D × D))} : EpK (vM t f) S PS = EpK f S fun d S1 => PS (.dic t d) S1 := by
  unfold vM
  simp only [← Ep_K, Ep_bind, Ep_ret]
theorem Y_parK {i j : Nat} {f1 f2 : EM Slot} : WpK (sParK i j f1 f2) S Q = EpK f1 S fun s1 S1 => EpK f2 S1 fun s2 S2 => AndK (i < S2.length) (AndK (j < S2.length) (Q (.nx ((S2.set i s1).set j s2)))) := by
  simp only [← Ep_K, ← Wp_K]
  unfold sParK
  rw [Wp_of]
  congr 1
  funext s1 S1
  have h := Wp_of (m := f2) (k := fun s2 S2 => if i < S2.length ∧ j < S2.length then .nx ((S2.set i s1).set j s2) else .bad) (S := S1) (Q := Q)
  unfold Wp at h
  refine Eq.trans (show _ = _ from rfl) (h.trans ?_)
  congr 1
  funext s2 S2
  unfold AndK
  split
  · rename_i hl; simp [hl, okO]
  · rename_i hl
    rw [Classical.not_and_iff_not_or_not] at hl
    rcases hl with hl | hl <;> simp [hl, okO]
end
end FW

/-! FwY: typed data: values of Lean types as data, compared. -/
namespace FW
open PySem PySem.Spec L2
open PyProof.Rows hiding St
class En (α : Type) [DecidableEq α] where
  en : α → D
  nd : ∀ a, noDict (en a) = true
  dp : Nat
  sh : ∀ a, shal dp (en a) = true
  eqv : ∀ a b, PyData.eqv (en a) (en b) = decide (a = b)
structure Tp (α : Type) where
  l : List α
deriving DecidableEq
theorem shal_mono : ∀ (n : Nat) (d : D), shal n d = true → shal (n + 1) d = true
  | 0, d, h => by cases d <;> simp_all [shal]
  | n + 1, d, h => by
    cases d with
    | list xs =>
      have h' : xs.all (shal n) = true := h
      show xs.all (shal (n + 1)) = true
      rw [List.all_eq_true] at h' ⊢
      exact fun x m => shal_mono n x (h' x m)
    | tuple xs =>
      have h' : xs.all (shal n) = true := h
      show xs.all (shal (n + 1)) = true
      rw [List.all_eq_true] at h' ⊢
      exact fun x m => shal_mono n x (h' x m)
    | dict xs => simp [shal] at h
    | _ => rfl
theorem shal_le {n m : Nat} (h : n ≤ m) {d : D} (s : shal n d = true) : shal m d = true := by
  induction h with
  | refl => exact s
  | step _ ih => exact shal_mono _ _ ih
theorem noDictA_all : ∀ ds : List D, noDictA ds = ds.all noDict
  | [] => rfl
  | d :: ds => by rw [noDictA, List.all_cons, noDictA_all ds]
section
variable {α β : Type} [DecidableEq α] [DecidableEq β] [En α] [En β]
theorem eqvAll_en : ∀ xs ys : List α, PyData.eqvAll (xs.map En.en) (ys.map En.en) = decide (xs = ys)
  | [], [] => by simp only [List.map_nil, PyData.eqvAll, decide_true]
  | [], _ :: _ => by simp [PyData.eqvAll]
  | _ :: _, [] => by simp [PyData.eqvAll]
  | x :: xs, y :: ys => by
    rw [List.map_cons, List.map_cons, PyData.eqvAll, En.eqv x y, eqvAll_en xs ys, ← Bool.decide_and]
    exact decide_eq_decide.mpr (by rw [List.cons.injEq])
theorem nd_en (xs : List α) : noDictA (xs.map En.en) = true := by
  rw [noDictA_all, List.all_eq_true]
  intro d hd
  obtain ⟨a, _, rfl⟩ := List.mem_map.mp hd
  exact En.nd a
theorem sh_en (xs : List α) : (xs.map En.en).all (shal (En.dp α)) = true := by
  rw [List.all_eq_true]
  intro d hd
  obtain ⟨a, _, rfl⟩ := List.mem_map.mp hd
  exact En.sh a
end
theorem beq_dec {α : Type} [BEq α] [LawfulBEq α] [DecidableEq α] (a b : α) : (a == b) = decide (a = b) := by
  rw [Bool.eq_iff_iff, beq_iff_eq, decide_eq_true_eq]
instance : En Int := ⟨PyData.int, fun _ => rfl, 0, fun _ => rfl, fun a b => by simp only [PyData.eqv]; exact beq_dec a b⟩
instance : En Bool := ⟨PyData.bool, fun _ => rfl, 0, fun _ => rfl, fun a b => by simp only [PyData.eqv]; exact beq_dec a b⟩
instance : En Str := ⟨PyData.str, fun _ => rfl, 0, fun _ => rfl, fun a b => by simp only [PyData.eqv]; exact beq_dec a b⟩
instance : En Nat := ⟨nI, fun _ => rfl, 0, fun _ => rfl, fun a b => by
  unfold nI
  simp only [PyData.eqv]
  rw [beq_dec]
  exact decide_eq_decide.mpr ⟨Int.ofNat.inj, fun e => by rw [e]⟩⟩
instance {α : Type} [DecidableEq α] [En α] : En (List α) := ⟨fun xs => .list (xs.map En.en), fun xs => nd_en xs, En.dp α + 1, fun xs => sh_en xs, fun xs ys => by simp only [PyData.eqv]; exact eqvAll_en xs ys⟩
instance {α : Type} [DecidableEq α] [En α] : En (Tp α) := ⟨fun xs => .tuple (xs.l.map En.en), fun xs => nd_en xs.l, En.dp α + 1, fun xs => sh_en xs.l, fun xs ys => by
  simp only [PyData.eqv]
  rw [eqvAll_en]
  exact decide_eq_decide.mpr ⟨fun e => by cases xs; cases ys; exact congrArg Tp.mk e, fun e => by rw [e]⟩⟩
instance {α β : Type} [DecidableEq α] [DecidableEq β] [En α] [En β] : En (α × β) := ⟨fun p => .tuple [En.en p.1, En.en p.2], fun p => by simp [noDict, noDictA, En.nd], max (En.dp α) (En.dp β) + 1, fun p => by
  show [En.en p.1, En.en p.2].all (shal (max (En.dp α) (En.dp β))) = true
  simp only [List.all_cons, List.all_nil, Bool.and_true]
  rw [shal_le (Nat.le_max_left _ _) (En.sh p.1), shal_le (Nat.le_max_right _ _) (En.sh p.2)]
  rfl, fun p q => by
  simp only [PyData.eqv, PyData.eqvAll]
  rw [En.eqv, En.eqv, Bool.and_true, ← Bool.decide_and]
  exact decide_eq_decide.mpr ⟨fun e => Prod.ext e.1 e.2, fun e => by rw [e]; exact ⟨rfl, rfl⟩⟩⟩
section
variable {α : Type} [DecidableEq α] [En α]
theorem cmp_en (h : En.dp α ≤ 8 := by decide) (a b : α) : cmpOk (En.en a) (En.en b) = true := by
  unfold cmpOk shal2
  rw [En.nd, En.nd, shal_le h (En.sh a)]
  rfl
theorem eqD_en (h : En.dp α ≤ 8 := by decide) (a b : α) : eqD (En.en a) (En.en b) = some (.bool (decide (a = b))) := by
  unfold eqD
  rw [if_pos (cmp_en h a b), En.eqv]
theorem neD_en (h : En.dp α ≤ 8 := by decide) (a b : α) : neD (En.en a) (En.en b) = some (.bool (!decide (a = b))) := by
  unfold neD
  rw [if_pos (cmp_en h a b), En.eqv]
end
theorem eqD_lN (a b : List Nat) : eqD (.list (a.map nI)) (.list (b.map nI)) = some (.bool (decide (a = b))) := eqD_en (α := List Nat) (by decide) a b
theorem neD_lN (a b : List Nat) : neD (.list (a.map nI)) (.list (b.map nI)) = some (.bool (!decide (a = b))) := neD_en (α := List Nat) (by decide) a b
theorem eqD_tN (a b : List Nat) : eqD (.tuple (a.map nI)) (.tuple (b.map nI)) = some (.bool (decide (a = b))) := by
  have e := eqD_en (α := Tp Nat) (by decide) ⟨a⟩ ⟨b⟩
  refine e.trans ?_
  congr 2
  exact decide_eq_decide.mpr ⟨fun e => Tp.mk.inj e, fun e => by rw [e]⟩
theorem neD_tN (a b : List Nat) : neD (.tuple (a.map nI)) (.tuple (b.map nI)) = some (.bool (!decide (a = b))) := by
  have e := neD_en (α := Tp Nat) (by decide) ⟨a⟩ ⟨b⟩
  refine e.trans ?_
  congr 2
  rw [decide_eq_decide.mpr (show (⟨a⟩ : Tp Nat) = ⟨b⟩ ↔ a = b from ⟨fun e => Tp.mk.inj e, fun e => by rw [e]⟩)]
mutual
theorem eqv_self : ∀ d : D, noDict d = true → PyData.eqv d d = true
  | .none, _ => by simp only [PyData.eqv]
  | .bool b, _ => by simp only [PyData.eqv, beq_self_eq_true]
  | .int b, _ => by simp only [PyData.eqv, beq_self_eq_true]
  | .str b, _ => by simp only [PyData.eqv, beq_self_eq_true]
  | .list xs, h => by simp only [PyData.eqv]; exact eqvA_self xs h
  | .tuple xs, h => by simp only [PyData.eqv]; exact eqvA_self xs h
  | .dict _, h => nomatch h
theorem eqvA_self : ∀ ds : List D, noDictA ds = true → PyData.eqvAll ds ds = true
  | [], _ => by simp only [PyData.eqvAll]
  | d :: ds, h => by
    rw [noDictA, Bool.and_eq_true] at h
    simp only [PyData.eqvAll, eqv_self d h.1, eqvA_self ds h.2, Bool.and_self]
end
theorem eqD_self {d : D} (h : noDict d = true) (s : shal 8 d = true) : eqD d d = some (.bool true) := by
  unfold eqD
  rw [if_pos (by unfold cmpOk shal2; rw [h, s]; rfl), eqv_self d h]
theorem neD_self {d : D} (h : noDict d = true) (s : shal 8 d = true) : neD d d = some (.bool false) := by
  unfold neD
  rw [if_pos (by unfold cmpOk shal2; rw [h, s]; rfl), eqv_self d h]
  rfl
theorem neD_selfE {α : Type} [DecidableEq α] [En α] (h : En.dp α ≤ 8 := by decide) (a : α) : neD (En.en a) (En.en a) = some (.bool false) := by
  rw [neD_en h]
  simp
theorem en_nat (k : Nat) : En.en k = nI k := rfl
/-! kinds -/
def wholeB (lo hi : Int) : D → Bool
  | .int i => decide (lo ≤ i) && decide (i ≤ hi)
  | _ => false
theorem isi_mk {T : String} {d : D} {b : Bool} (h1 : notDict d = true) (h2 : kitB (tyName d) T = some b) : isiD T d = some (.bool b) := by
  unfold isiD
  rw [if_pos h1, h2]
  rfl
theorem kb_int_i : kitB "int" "int" = some true := by decide +kernel
theorem isi_int_i {i : Int} : isiD "int" (.int i) = some (.bool true) := isi_mk rfl kb_int_i
theorem kb_int_b : kitB "bool" "int" = some true := by decide +kernel
theorem isi_int_b {i : Bool} : isiD "int" (.bool i) = some (.bool true) := isi_mk rfl kb_int_b
theorem kb_int_n : kitB "NoneType" "int" = some false := by decide +kernel
theorem isi_int_n  : isiD "int" .none = some (.bool false) := isi_mk rfl kb_int_n
theorem kb_int_s : kitB "str" "int" = some false := by decide +kernel
theorem isi_int_s {x : Str} : isiD "int" (.str x) = some (.bool false) := isi_mk rfl kb_int_s
theorem kb_int_l : kitB "list" "int" = some false := by decide +kernel
theorem isi_int_l {x : List D} : isiD "int" (.list x) = some (.bool false) := isi_mk rfl kb_int_l
theorem kb_int_t : kitB "tuple" "int" = some false := by decide +kernel
theorem isi_int_t {x : List D} : isiD "int" (.tuple x) = some (.bool false) := isi_mk rfl kb_int_t
theorem kb_bool_i : kitB "int" "bool" = some false := by decide +kernel
theorem isi_bool_i {i : Int} : isiD "bool" (.int i) = some (.bool false) := isi_mk rfl kb_bool_i
theorem kb_bool_b : kitB "bool" "bool" = some true := by decide +kernel
theorem isi_bool_b {i : Bool} : isiD "bool" (.bool i) = some (.bool true) := isi_mk rfl kb_bool_b
theorem kb_bool_n : kitB "NoneType" "bool" = some false := by decide +kernel
theorem isi_bool_n  : isiD "bool" .none = some (.bool false) := isi_mk rfl kb_bool_n
theorem kb_bool_s : kitB "str" "bool" = some false := by decide +kernel
theorem isi_bool_s {x : Str} : isiD "bool" (.str x) = some (.bool false) := isi_mk rfl kb_bool_s
theorem kb_bool_l : kitB "list" "bool" = some false := by decide +kernel
theorem isi_bool_l {x : List D} : isiD "bool" (.list x) = some (.bool false) := isi_mk rfl kb_bool_l
theorem kb_bool_t : kitB "tuple" "bool" = some false := by decide +kernel
theorem isi_bool_t {x : List D} : isiD "bool" (.tuple x) = some (.bool false) := isi_mk rfl kb_bool_t
theorem kb_tup_i : kitB "int" "tuple" = some false := by decide +kernel
theorem isi_tup_i {i : Int} : isiD "tuple" (.int i) = some (.bool false) := isi_mk rfl kb_tup_i
theorem kb_tup_b : kitB "bool" "tuple" = some false := by decide +kernel
theorem isi_tup_b {i : Bool} : isiD "tuple" (.bool i) = some (.bool false) := isi_mk rfl kb_tup_b
theorem kb_tup_n : kitB "NoneType" "tuple" = some false := by decide +kernel
theorem isi_tup_n  : isiD "tuple" .none = some (.bool false) := isi_mk rfl kb_tup_n
theorem kb_tup_s : kitB "str" "tuple" = some false := by decide +kernel
theorem isi_tup_s {x : Str} : isiD "tuple" (.str x) = some (.bool false) := isi_mk rfl kb_tup_s
theorem kb_tup_l : kitB "list" "tuple" = some false := by decide +kernel
theorem isi_tup_l {x : List D} : isiD "tuple" (.list x) = some (.bool false) := isi_mk rfl kb_tup_l
theorem kb_tup_t : kitB "tuple" "tuple" = some true := by decide +kernel
theorem isi_tup_t {x : List D} : isiD "tuple" (.tuple x) = some (.bool true) := isi_mk rfl kb_tup_t
theorem kb_lst_i : kitB "int" "list" = some false := by decide +kernel
theorem isi_lst_i {i : Int} : isiD "list" (.int i) = some (.bool false) := isi_mk rfl kb_lst_i
theorem kb_lst_b : kitB "bool" "list" = some false := by decide +kernel
theorem isi_lst_b {i : Bool} : isiD "list" (.bool i) = some (.bool false) := isi_mk rfl kb_lst_b
theorem kb_lst_n : kitB "NoneType" "list" = some false := by decide +kernel
theorem isi_lst_n  : isiD "list" .none = some (.bool false) := isi_mk rfl kb_lst_n
theorem kb_lst_s : kitB "str" "list" = some false := by decide +kernel
theorem isi_lst_s {x : Str} : isiD "list" (.str x) = some (.bool false) := isi_mk rfl kb_lst_s
theorem kb_lst_l : kitB "list" "list" = some true := by decide +kernel
theorem isi_lst_l {x : List D} : isiD "list" (.list x) = some (.bool true) := isi_mk rfl kb_lst_l
theorem kb_lst_t : kitB "tuple" "list" = some false := by decide +kernel
theorem isi_lst_t {x : List D} : isiD "list" (.tuple x) = some (.bool false) := isi_mk rfl kb_lst_t
theorem kb_str_i : kitB "int" "str" = some false := by decide +kernel
theorem isi_str_i {i : Int} : isiD "str" (.int i) = some (.bool false) := isi_mk rfl kb_str_i
theorem kb_str_b : kitB "bool" "str" = some false := by decide +kernel
theorem isi_str_b {i : Bool} : isiD "str" (.bool i) = some (.bool false) := isi_mk rfl kb_str_b
theorem kb_str_n : kitB "NoneType" "str" = some false := by decide +kernel
theorem isi_str_n  : isiD "str" .none = some (.bool false) := isi_mk rfl kb_str_n
theorem kb_str_s : kitB "str" "str" = some true := by decide +kernel
theorem isi_str_s {x : Str} : isiD "str" (.str x) = some (.bool true) := isi_mk rfl kb_str_s
theorem kb_str_l : kitB "list" "str" = some false := by decide +kernel
theorem isi_str_l {x : List D} : isiD "str" (.list x) = some (.bool false) := isi_mk rfl kb_str_l
theorem kb_str_t : kitB "tuple" "str" = some false := by decide +kernel
theorem isi_str_t {x : List D} : isiD "str" (.tuple x) = some (.bool false) := isi_mk rfl kb_str_t
/-! small facts -/
theorem lenD_ln {xs : List Nat} : lenD [.list (xs.map nI)] = some (.int (xs.length : Nat)) := by rw [lenD_l, List.length_map]
theorem lenD_tn {xs : List Nat} : lenD [.tuple (xs.map nI)] = some (.int (xs.length : Nat)) := by rw [lenD_t, List.length_map]
theorem tupleD_l {ds : List D} : tupleD [.list ds] = some (.tuple ds) := rfl
theorem tupleD_t {ds : List D} : tupleD [.tuple ds] = some (.tuple ds) := rfl
theorem listD_l {ds : List D} : listD [.list ds] = some ds := rfl
theorem listD_t {ds : List D} : listD [.tuple ds] = some ds := rfl
theorem intD_i {i : Int} : intD [.int i] = some (.int i) := rfl
theorem walk_l {ds : List D} : walkA (.list ds) = some ds := rfl
theorem walk_t {ds : List D} : walkA (.tuple ds) = some ds := rfl
theorem sumD_map (ns : List Int) : sumD [.list (ns.map PyData.int)] = some (.int ns.sum) := by
  show (allI (ns.map PyData.int)).map _ = _
  rw [allI_map]
  rfl
theorem allI_nI (ns : List Nat) : allI (ns.map nI) = some (ns.map Int.ofNat) := by
  have e : ns.map nI = (ns.map Int.ofNat).map PyData.int := by rw [List.map_map]; rfl
  rw [e, allI_map]
theorem allD_map {α : Type} (xs : List α) (p : α → Bool) : allD [.list (xs.map fun x => .bool (p x))] = some (.bool (xs.all p)) := by
  have e : (xs.map fun x => PyData.bool (p x)) = (xs.map p).map PyData.bool := by rw [List.map_map]; rfl
  show (allB (xs.map fun x => PyData.bool (p x))).map _ = _
  rw [e, allB_map]
  simp
theorem anyD_map {α : Type} (xs : List α) (p : α → Bool) : anyD [.list (xs.map fun x => .bool (p x))] = some (.bool (xs.any p)) := by
  have e : (xs.map fun x => PyData.bool (p x)) = (xs.map p).map PyData.bool := by rw [List.map_map]; rfl
  show (allB (xs.map fun x => PyData.bool (p x))).map _ = _
  rw [e, allB_map]
  simp
theorem lr1_ok {n : Nat} (h : n ≤ 1000000) : lr1 (.int (n : Nat)) = some ((List.range n).map nI) := by
  have e : lr1 (.int (n : Nat)) = (if rgOk 0 n then some (intsD 0 ((n : Int) - 0).toNat) else none) := rfl
  have b : rgOk 0 (n : Int) = true := by
    unfold rgOk
    simp
    omega
  rw [e, if_pos b]
  unfold intsD
  simp
  exact fun _ _ => rfl
theorem lr2_ok {i j : Nat} (hi : i ≤ 1000000) (h : j ≤ 1000000) : lr2 (.int (i : Nat)) (.int (j : Nat)) = some ((List.range (j - i)).map fun k => nI (i + k)) := by
  have e : lr2 (.int (i : Nat)) (.int (j : Nat)) = (if rgOk i j then some (intsD i ((j : Int) - i).toNat) else none) := rfl
  have b : rgOk (i : Int) (j : Int) = true := by
    unfold rgOk
    simp
    omega
  rw [e, if_pos b]
  unfold intsD
  have : ((j : Int) - i).toNat = j - i := by omega
  rw [this]
  congr 1
theorem list_range {n : Nat} : (List.range n).map (fun i => PyData.int (i : Nat)) = (List.range n).map nI := rfl
/-! draws -/
theorem RwK_takeW {a : Addr} {k : Int} {ns : List Int} {n : Int} {P : D → Int → List Int → Prop} (h : DrawOk ns) (hn : n < 2 ^ 200) (q : ∀ (r : Nat) (k' : Int) (ns' : List Int), DrawOk ns' → (1 ≤ n → (r : Int) < n) → (n ≤ 1 → r = 0) → P (.int r) k' ns') : RwK (takeW a k ns [.int n]) P := by
  obtain ⟨r, k', ns', e, h1, h2, h3, h4⟩ := takeL_ok k h (m := n) hn
  obtain ⟨r, rfl⟩ := Int.eq_ofNat_of_zero_le h2
  refine ⟨.int r, k', ns', ?_, q r k' ns' h1 (fun z => h4 z) (fun z => by have := h3 (by omega); omega)⟩
  unfold takeW
  simp only [e]
end FW

/-! FwZ: loops and comprehensions over typed items; slots that nobody looks at again. -/
namespace FW
open PySem PySem.Spec L2
open PyProof.Rows hiding St
/-- a slot that nobody looks at again -/
def gv : Option D → Slot
  | none => .un
  | some d => .dat d
theorem plain_gv {o : Option D} : plainSlot (gv o) = true := by cases o <;> rfl
theorem comp_mapG {α : Type} (enc : α → D) {own : List Nat} {g : Tg} {t : EM Bool} {e : EM D} (base : List Slot) (p : α → Bool) (f : α → D) : ∀ (xs : List α), (∀ x ∈ xs, ∃ S1, g (enc x) base = some S1 ∧ wipeS own S1 = base ∧ Ep t S1 fun b S2 => b = p x ∧ S2 = S1 ∧ (b = true → Ep e S1 fun y S3 => y = f x ∧ S3 = S1)) →
    compL own g t e (xs.map enc) base = .ok ((xs.filter p).map f) base
  | [], _ => rfl
  | x :: xs, h => by
    obtain ⟨S1, e1, e3, b, S2, e2, rfl, rfl, e4⟩ := h x List.mem_cons_self
    have ih := comp_mapG enc base p f xs fun d' m => h d' (List.mem_cons_of_mem _ m)
    rw [List.map_cons]
    unfold compL
    rw [e1]
    simp only
    rw [e2]
    cases hp : p x with
    | true =>
      obtain ⟨y, S3, e5, rfl, rfl⟩ := e4 hp
      simp only
      rw [e5]
      simp only
      rw [e3, ih, List.filter_cons_of_pos hp]
      rfl
    | false =>
      simp only
      rw [e3, ih, List.filter_cons_of_neg (by rw [hp]; simp)]
section
variable {α : Type} {S : List Slot} {PL : List D → List Slot → Prop} {Q : Out → Prop}
/-- [e for v in xs if t] -/
theorem E_selG (enc : α → D) {v : Nat} {src : EM (List D)} {t : EM Bool} {e : EM D} (xs : List α) (p : α → Bool) (f : α → D) (h0 : Ep src S fun ds' S1 => ds' = xs.map enc ∧ S1 = S) (hv : v < S.length) (pl : plainAt [v] S = true) (hs : xs.length ≤ 1000000)
    (ht : ∀ x ∈ xs, Ep t (S.set v (.dat (enc x))) fun b S3 => b = p x ∧ S3 = S.set v (.dat (enc x))) (he : ∀ x ∈ xs, p x = true → Ep e (S.set v (.dat (enc x))) fun y S3 => y = f x ∧ S3 = S.set v (.dat (enc x))) (q : PL ((xs.filter p).map f) S) : Ep (eComp [v] src (gN v) t e) S PL := by
  obtain ⟨ds, S1, e1, rfl, rfl⟩ := h0
  refine ⟨_, S1, ?_, q⟩
  unfold eComp eBind
  rw [e1]
  have hsm : small (xs.map enc).length = true := small_of (by rw [List.length_map]; exact hs)
  simp only [pl, hsm, Bool.and_self, if_true]
  rw [comp_mapG enc (wipeS [v] S1) p f xs fun x hx => ⟨S1.set v (.dat (enc x)), ?_, ?_, ?_⟩]
  · simp only [wipe1, rest1 hv]
  · rw [wipe1]
    unfold gN
    rw [if_pos (by rw [List.length_set]; exact hv), List.set_set]
  · rw [wipe1, wipe1, List.set_set]
  · refine (ht x hx).mono fun b S3 h => ?_
    obtain ⟨rfl, rfl⟩ := h
    exact ⟨rfl, rfl, fun hb => he x hx hb⟩
/-- [e for v in xs] -/
theorem E_mapG (enc : α → D) {v : Nat} {src : EM (List D)} {e : EM D} (xs : List α) (f : α → D) (h0 : Ep src S fun ds' S1 => ds' = xs.map enc ∧ S1 = S) (hv : v < S.length) (pl : plainAt [v] S = true) (hs : xs.length ≤ 1000000)
    (he : ∀ x ∈ xs, Ep e (S.set v (.dat (enc x))) fun y S3 => y = f x ∧ S3 = S.set v (.dat (enc x))) (q : PL (xs.map f) S) : Ep (eComp [v] src (gN v) bYes e) S PL := by
  refine E_selG enc xs (fun _ => true) f h0 hv pl hs (fun d _ => ?_) (fun d hd _ => he d hd) ?_
  · rw [Ep_yes]
    exact ⟨rfl, rfl⟩
  · rw [List.filter_eq_self.mpr fun _ _ => rfl]
    exact q
/-! loops -/
theorem for_E {β γ : Type} (enc : α → D) {g : Tg} {body : SM} (st : β → γ → List Slot) (step : β → α → β) (I : Nat → β → Prop) (xs0 : List α) (h : ∀ i x, xs0[i]? = some x → ∀ s c, I i s → I (i + 1) (step s x) ∧ ∃ S1, g (enc x) (st s c) = some S1 ∧ Wp body S1 fun o => ∃ c', o = .nx (st (step s x) c') ∨ o = .ct (st (step s x) c')) :
    ∀ (xs : List α) (i : Nat) (s : β) (c : γ), xs = xs0.drop i → I i s → ∃ c', forL g body (xs.map enc) (st s c) = .nx (st (xs.foldl step s) c') ∧ I (i + xs.length) (xs.foldl step s)
  | [], i, s, c, _, hs => ⟨c, rfl, hs⟩
  | x :: xs, i, s, c, ed, hs => by
    have e0 : xs0[i]? = some x := by
      have := congrArg List.head? ed
      simpa [List.head?_drop] using this.symm
    have e3 : xs = xs0.drop (i + 1) := by
      have := congrArg List.tail ed
      simpa [List.tail_drop] using this
    obtain ⟨h1, S1, e1, e2⟩ := h i x e0 s c hs
    rw [List.map_cons]
    unfold forL
    rw [e1]
    obtain ⟨_, c1, e2⟩ := e2
    obtain ⟨c2, ih, hi⟩ := for_E enc st step I xs0 h xs (i + 1) (step s x) c1 e3 h1
    rw [show i + 1 + xs.length = i + (x :: xs).length by simp; omega] at hi
    refine ⟨c2, ?_, hi⟩
    rcases e2 with e2 | e2
    · simp only [e2]
      exact ih
    · simp only [e2]
      exact ih
/-- a loop over typed items, with slots that nobody looks at -/
theorem W_forE {β γ : Type} (enc : α → D) {g : Tg} {body : SM} {xs : List α} (st : β → γ → List Slot) (step : β → α → β) (I : Nat → β → Prop) (s : β) (c : γ) (hs : I 0 s)
    (h : ∀ i x, xs[i]? = some x → ∀ s c, I i s → I (i + 1) (step s x) ∧ ∃ S1, g (enc x) (st s c) = some S1 ∧ Wp body S1 fun o => ∃ c', o = .nx (st (step s x) c') ∨ o = .ct (st (step s x) c'))
    (q : ∀ c', I xs.length (xs.foldl step s) → Q (.nx (st (xs.foldl step s) c'))) : Wp (fun S => forL g body (xs.map enc) S) (st s c) Q := by
  obtain ⟨c', e, i⟩ := for_E enc st step I xs h xs 0 s c rfl hs
  rw [Nat.zero_add] at i
  unfold Wp
  simp only [e]
  exact ⟨rfl, q c' i⟩
/-- a loop whose turns leave what stands there as it is -/
theorem W_forC {γ : Type} (enc : α → D) {g : Tg} {body : SM} {xs : List α} (st : γ → List Slot) (c : γ)
    (h : ∀ x ∈ xs, ∀ c, ∃ S1, g (enc x) (st c) = some S1 ∧ Wp body S1 fun o => ∃ c', o = .nx (st c') ∨ o = .ct (st c')) (q : ∀ c', Q (.nx (st c'))) : Wp (fun S => forL g body (xs.map enc) S) (st c) Q :=
  W_forE (β := Unit) enc (fun _ c => st c) (fun _ _ => ()) (fun _ _ => True) () c trivial (fun i x hx _ c _ => ⟨trivial, h x (List.mem_of_getElem? hx) c⟩) (fun c' _ => q c')
/-- a loop that may give back something: the state before the item at which it does -/
theorem for_R {β γ : Type} (enc : α → D) {g : Tg} {body : SM} (st : β → γ → List Slot) (step : β → α → β) (stop : β → α → Bool) (ret : β → α → D) (I : Nat → β → Prop) (xs0 : List α) (h : ∀ i x, xs0[i]? = some x → ∀ s c, I i s → ∃ S1, g (enc x) (st s c) = some S1 ∧
      ((stop s x = false ∧ I (i + 1) (step s x) ∧ Wp body S1 fun o => ∃ c', o = .nx (st (step s x) c') ∨ o = .ct (st (step s x) c')) ∨ (stop s x = true ∧ Wp body S1 fun o => ∃ S', o = .rt (ret s x) S'))) :
    ∀ (xs : List α) (i : Nat) (s : β) (c : γ), xs = xs0.drop i → I i s → (∃ c', forL g body (xs.map enc) (st s c) = .nx (st (xs.foldl step s) c') ∧ I (i + xs.length) (xs.foldl step s) ∧ ∀ j x, xs[j]? = some x → stop ((xs.take j).foldl step s) x = false) ∨
      ∃ j x S', xs[j]? = some x ∧ (∀ j' x', j' < j → xs[j']? = some x' → stop ((xs.take j').foldl step s) x' = false) ∧ stop ((xs.take j).foldl step s) x = true ∧ I (i + j) ((xs.take j).foldl step s) ∧ forL g body (xs.map enc) (st s c) = .rt (ret ((xs.take j).foldl step s) x) S'
  | [], i, s, c, _, hs => .inl ⟨c, rfl, hs, fun j x hx => by simp at hx⟩
  | x :: xs, i, s, c, ed, hs => by
    have e0 : xs0[i]? = some x := by
      have := congrArg List.head? ed
      simpa [List.head?_drop] using this.symm
    have e3 : xs = xs0.drop (i + 1) := by
      have := congrArg List.tail ed
      simpa [List.tail_drop] using this
    obtain ⟨S1, e1, h2⟩ := h i x e0 s c hs
    rw [List.map_cons]
    unfold forL
    rw [e1]
    rcases h2 with ⟨hs1, h1, _, c1, e2⟩ | ⟨hs1, _, S', e2⟩
    · rcases for_R enc st step stop ret I xs0 h xs (i + 1) (step s x) c1 e3 h1 with ⟨c2, ih, hi, hall⟩ | ⟨j, y, S', hj, hall, hst, hI, ih⟩
      · refine .inl ⟨c2, ?_, ?_, fun j y hy => ?_⟩
        · rcases e2 with e2 | e2
          · simp only [e2]
            exact ih
          · simp only [e2]
            exact ih
        · rw [show i + (x :: xs).length = i + 1 + xs.length by simp; omega]
          exact hi
        · cases j with
          | zero =>
            simp at hy
            subst hy
            exact hs1
          | succ j => exact hall j y (by simpa using hy)
      · refine .inr ⟨j + 1, y, S', by simpa using hj, fun j' y' hj' hy' => ?_, hst, ?_, ?_⟩
        · cases j' with
          | zero =>
            simp at hy'
            subst hy'
            exact hs1
          | succ j' => exact hall j' y' (by omega) (by simpa using hy')
        · rw [show i + (j + 1) = i + 1 + j by omega]
          exact hI
        · rcases e2 with e2 | e2
          · simp only [e2]
            exact ih
          · simp only [e2]
            exact ih
    · exact .inr ⟨0, x, S', rfl, fun j' _ hj' => by omega, hs1, hs, by simp only [e2]; rfl⟩
theorem W_forR {β γ : Type} (enc : α → D) {g : Tg} {body : SM} {xs : List α} (st : β → γ → List Slot) (step : β → α → β) (stop : β → α → Bool) (ret : β → α → D) (I : Nat → β → Prop) (s : β) (c : γ) (hs : I 0 s) (h : ∀ i x, xs[i]? = some x → ∀ s c, I i s → ∃ S1, g (enc x) (st s c) = some S1 ∧
      ((stop s x = false ∧ I (i + 1) (step s x) ∧ Wp body S1 fun o => ∃ c', o = .nx (st (step s x) c') ∨ o = .ct (st (step s x) c')) ∨ (stop s x = true ∧ Wp body S1 fun o => ∃ S', o = .rt (ret s x) S')))
    (q1 : ∀ c', I xs.length (xs.foldl step s) → (∀ j x, xs[j]? = some x → stop ((xs.take j).foldl step s) x = false) → Q (.nx (st (xs.foldl step s) c')))
    (q2 : ∀ j x S', xs[j]? = some x → (∀ j' x', j' < j → xs[j']? = some x' → stop ((xs.take j').foldl step s) x' = false) → stop ((xs.take j).foldl step s) x = true → I j ((xs.take j).foldl step s) → Q (.rt (ret ((xs.take j).foldl step s) x) S')) : Wp (fun S => forL g body (xs.map enc) S) (st s c) Q := by
  unfold Wp
  rcases for_R enc st step stop ret I xs h xs 0 s c rfl hs with ⟨c2, ih, hi, hall⟩ | ⟨j, y, S', hj, hall, hst, hI, ih⟩
  · simp only [ih]
    rw [Nat.zero_add] at hi
    exact ⟨rfl, q1 c2 hi hall⟩
  · simp only [ih]
    rw [Nat.zero_add] at hI
    exact ⟨rfl, q2 j y S' hj hall hst hI⟩
/-- the plain case: no state is carried, the first item that is bad makes it give back the same -/
theorem W_forT {γ : Type} (enc : α → D) {g : Tg} {body : SM} {xs : List α} (st : γ → List Slot) (stop : α → Bool) (d : D) (c : γ) (h : ∀ x ∈ xs, ∀ c, ∃ S1, g (enc x) (st c) = some S1 ∧
      Wp body S1 fun o => (stop x = false ∧ ∃ c', o = .nx (st c') ∨ o = .ct (st c')) ∨ (stop x = true ∧ ∃ S', o = .rt d S'))
    (q1 : ∀ c', (∀ x ∈ xs, stop x = false) → Q (.nx (st c'))) (q2 : ∀ S', (∃ x ∈ xs, stop x = true) → Q (.rt d S')) : Wp (fun S => forL g body (xs.map enc) S) (st c) Q := by
  refine W_forR (β := Unit) enc (fun _ c => st c) (fun _ _ => ()) (fun _ x => stop x) (fun _ _ => d) (fun _ _ => True) () c trivial (fun i x hx _ c _ => ?_) (fun c' _ hall => q1 c' fun x hx => ?_) (fun j x S' hx _ hst _ => q2 S' ⟨x, List.mem_of_getElem? hx, hst⟩)
  · obtain ⟨S1, e1, e2, e3⟩ := h x (List.mem_of_getElem? hx) c
    refine ⟨S1, e1, ?_⟩
    rcases e3 with ⟨hs, e3⟩ | ⟨hs, e3⟩
    · exact .inl ⟨hs, trivial, e2, e3⟩
    · exact .inr ⟨hs, e2, e3⟩
  · obtain ⟨i, hi⟩ := List.mem_iff_getElem?.mp hx
    exact hall i x hi
/-! draws -/
theorem All2.nats {m : Nat} : ∀ {ds ys : List D}, All2 (fun _ y => ∃ r : Nat, y = .int r ∧ r < m) ds ys → ∃ xs : List Nat, ys = xs.map nI ∧ xs.length = ds.length ∧ ∀ x ∈ xs, x < m
  | _, _, .nil => ⟨[], rfl, rfl, fun _ h => nomatch h⟩
  | _, _, .cons h t => by
    obtain ⟨r, rfl, hr⟩ := h
    obtain ⟨xs, rfl, hl, hx⟩ := All2.nats t
    exact ⟨r :: xs, rfl, by simp [hl], fun x hm => (List.mem_cons.mp hm).elim (fun e => e ▸ hr) (hx x)⟩
/-- .. of anything typed -/
theorem All2.typed {α : Type} (enc : α → D) (p : α → Prop) : ∀ {ds ys : List D}, All2 (fun _ y => ∃ r : α, y = enc r ∧ p r) ds ys → ∃ xs : List α, ys = xs.map enc ∧ xs.length = ds.length ∧ ∀ x ∈ xs, p x
  | _, _, .nil => ⟨[], rfl, rfl, fun _ h => nomatch h⟩
  | _, _, .cons h t => by
    obtain ⟨r, rfl, hr⟩ := h
    obtain ⟨xs, rfl, hl, hx⟩ := All2.typed enc p t
    exact ⟨r :: xs, rfl, by simp [hl], fun x hm => (List.mem_cons.mp hm).elim (fun e => e ▸ hr) (hx x)⟩
/-- tuple([draw for v in range(n)]) -/
theorem E_drawN {v w : Nat} {src : EM (List D)} {e : EM D} {a : Addr} {k : Int} {ns : List Int} (n m : Nat) (hw : S[w]? = some (.drw a k ns)) (hn : DrawOk ns) (hvw : v ≠ w) (h0 : Ep src S fun ds' S1 => ds' = (List.range n).map nI ∧ S1 = S) (hv : v < S.length) (pl : plainAt [v] S = true) (hs : n ≤ 1000000)
    (he : ∀ i < n, ∀ k ns, DrawOk ns → Ep e ((S.set w (.drw a k ns)).set v (.dat (.int i))) fun y S3 => (∃ r : Nat, y = .int r ∧ r < m) ∧ ∃ k' ns', DrawOk ns' ∧ S3 = (S.set w (.drw a k' ns')).set v (.dat (.int i)))
    (q : ∀ (xs : List Nat) k' ns', DrawOk ns' → xs.length = n → (∀ x ∈ xs, x < m) → PL (xs.map nI) (S.set w (.drw a k' ns'))) : Ep (eComp [v] src (gN v) bYes e) S PL := by
  refine E_draws ((List.range n).map nI) (fun _ y => ∃ r : Nat, y = .int r ∧ r < m) hw hn hvw h0 hv pl (by simpa using hs) (fun d hd k ns hn => ?_) fun ys k' ns' hn' h2 => ?_
  · obtain ⟨i, hi, rfl⟩ := List.mem_map.mp hd
    exact he i (List.mem_range.mp hi) k ns hn
  · obtain ⟨xs, rfl, hl, hx⟩ := h2.nats
    exact q xs k' ns' hn' (by simpa using hl) hx
/-- [draw for v in range(n)] of anything typed -/
theorem E_drawG {v w : Nat} {src : EM (List D)} {e : EM D} {a : Addr} {k : Int} {ns : List Int} (enc : α → D) (p : α → Prop) (n : Nat) (hw : S[w]? = some (.drw a k ns)) (hn : DrawOk ns) (hvw : v ≠ w) (h0 : Ep src S fun ds' S1 => ds' = (List.range n).map nI ∧ S1 = S) (hv : v < S.length) (pl : plainAt [v] S = true) (hs : n ≤ 1000000)
    (he : ∀ i < n, ∀ k ns, DrawOk ns → Ep e ((S.set w (.drw a k ns)).set v (.dat (.int i))) fun y S3 => (∃ r : α, y = enc r ∧ p r) ∧ ∃ k' ns', DrawOk ns' ∧ S3 = (S.set w (.drw a k' ns')).set v (.dat (.int i)))
    (q : ∀ (xs : List α) k' ns', DrawOk ns' → xs.length = n → (∀ x ∈ xs, p x) → PL (xs.map enc) (S.set w (.drw a k' ns'))) : Ep (eComp [v] src (gN v) bYes e) S PL := by
  refine E_draws ((List.range n).map nI) (fun _ y => ∃ r : α, y = enc r ∧ p r) hw hn hvw h0 hv pl (by simpa using hs) (fun d hd k ns hn => ?_) fun ys k' ns' hn' h2 => ?_
  · obtain ⟨i, hi, rfl⟩ := List.mem_map.mp hd
    exact he i (List.mem_range.mp hi) k ns hn
  · obtain ⟨xs, rfl, hl, hx⟩ := All2.typed enc p h2
    exact q xs k' ns' hn' (by simpa using hl) hx
end
end FW

/-! FwZb: more of the same: displays of dicts, stores. -/
namespace FW
open PySem PySem.Spec L2
open PyProof.Rows hiding St
section
variable {α : Type} {S : List Slot} {PD : D → List Slot → Prop} {PL : List D → List Slot → Prop} {PM : List (D × D) → List Slot → Prop} {Q : Out → Prop}
theorem X_fzM {t : Bool} {f : EM (List (D × D))} : EpK (eFzM t f) S PD = EpK f S fun es S1 => PD (dictD t es) S1 := by
  unfold eFzM
  simp only [← Ep_K, Ep_bind, Ep_ret]
theorem X_prn : EpK (ePairs []) S PM = PM [] S := Ep_ret []
theorem X_prc {fk fv : EM D} {r : List (EM D × EM D)} : EpK (ePairs ((fk, fv) :: r)) S PM = EpK fk S fun k S1 => EpK fv S1 fun v S2 => EpK (ePairs r) S2 fun es S3 => PM ((k, v) :: es) S3 := by
  have e : ePairs ((fk, fv) :: r) = eBind fk fun k => eBind fv fun v => eBind (ePairs r) fun es => eRet ((k, v) :: es) := rfl
  rw [e]
  simp only [← Ep_K, Ep_bind, Ep_ret]
theorem X_disp {t : Bool} {fs : List (EM D × EM D)} : EpK (eDisp t fs) S PM = EpK (ePairs fs) S fun es S1 => AndK (es.length ≤ 15) (OpK (esPuts t [] es) fun r => PM r S1) := by
  unfold eDisp
  simp only [← Ep_K, Ep_bind, Ep_ite, Ep_opt, Ep_bad]
  congr 1
  funext es S1
  unfold AndK OpK
  split
  · rename_i h; simp [h]
  · rename_i h; simp [h]
end
theorem W_forD {γ : Type} {g : Tg} {body : SM} {ds : List D} {Q : Out → Prop} (st : γ → List Slot) (c : γ) (h : ∀ d ∈ ds, ∀ c, ∃ S1, g d (st c) = some S1 ∧ Wp body S1 fun o => ∃ c', o = .nx (st c') ∨ o = .ct (st c')) (q : ∀ c', Q (.nx (st c'))) : Wp (fun S => forL g body ds S) (st c) Q := by
  have e := W_forC (fun d : D => d) (g := g) (body := body) (xs := ds) (Q := Q) st c h q
  rw [List.map_id'] at e
  exact e
theorem Ep_val {α : Type} {m : EM α} {S : List Slot} {P : α → List Slot → Prop} (v : α) (h : Ep m S fun r S1 => r = v ∧ S1 = S) (q : P v S) : EpK m S P := by
  obtain ⟨a, S1, e, rfl, rfl⟩ := h
  exact ⟨a, S1, e, q⟩
theorem ln_p {α : Type} {l : List α} {k : Nat} : (l.length + 1 = k + 1) = (l.length = k) := by simp
theorem setAt_i {row : List Int} {p : Nat} {v : Int} (h : p < row.length) : setAtD (.own (row.map PyData.int)) (.int p) (.int v) = some (.own ((row.set p v).map PyData.int)) := by
  have e : setAtD (.own (row.map PyData.int)) (.int p) (.int v) = (ixN (row.map PyData.int).length p).map fun j => .own ((row.map PyData.int).set j (.int v)) := rfl
  rw [e]
  unfold ixN
  rw [if_pos (by omega), if_pos (by rw [List.length_map]; omega)]
  simp only [Option.map_some, Int.toNat_natCast, List.map_set]
theorem setAt_g {α : Type} (enc : α → D) {row : List α} {p : Nat} {v : α} (h : p < row.length) : setAtD (.own (row.map enc)) (.int p) (enc v) = some (.own ((row.set p v).map enc)) := by
  have e : setAtD (.own (row.map enc)) (.int p) (enc v) = (ixN (row.map enc).length p).map fun j => .own ((row.map enc).set j (enc v)) := rfl
  rw [e]
  unfold ixN
  rw [if_pos (by omega), if_pos (by rw [List.length_map]; omega)]
  simp only [Option.map_some, Int.toNat_natCast, List.map_set]
theorem ix_i {row : List Int} {p : Nat} (h : p < row.length) : ixD (.list (row.map PyData.int)) (.int p) = some (.int (row.getD p 0)) := by
  refine ixD_l ?_
  rw [List.getElem?_map, List.getElem?_eq_getElem h, List.getD_eq_getElem?_getD, List.getElem?_eq_getElem h]
  rfl
theorem fold_app {α β : Type} (f : α → β) : ∀ (xs : List α) (a : List β), xs.foldl (fun s x => s ++ [f x]) a = a ++ xs.map f
  | [], a => by simp
  | x :: xs, a => by rw [List.foldl_cons, fold_app f xs]; simp
theorem fold_app2 {α β γ : Type} (f : α → β) (g : α → γ) : ∀ (xs : List α) (a : List β) (b : List γ), xs.foldl (fun (s : List β × List γ) x => (s.1 ++ [f x], s.2 ++ [g x])) (a, b) = (a ++ xs.map f, b ++ xs.map g)
  | [], a, b => by simp
  | x :: xs, a, b => by rw [List.foldl_cons, fold_app2 f g xs]; simp
theorem app_map {α : Type} (enc : α → D) {xs : List α} {x : α} (h : xs.length < 1000000) : appD (xs.map enc) [enc x] = some (.none, (xs ++ [x]).map enc) := by
  rw [appD_one (size_of (by rw [List.length_map]; exact h))]
  simp
theorem app_range {f : Nat → D} {i : Nat} (h : i < 1000000) : appD ((List.range i).map f) [f i] = some (.none, (List.range (i + 1)).map f) := by
  rw [appD_one (size_of (by rw [List.length_map, List.length_range]; exact h)), List.range_succ, List.map_append]
  rfl
theorem sumD_mapf {α : Type} {xs : List α} {t : α → Int} : sumD [.list (xs.map fun k => .int (t k))] = some (.int (xs.map t).sum) := by
  have e : (xs.map fun k => PyData.int (t k)) = (xs.map t).map PyData.int := by rw [List.map_map]; rfl
  rw [e, sumD_map]
section
variable {Q : Out → Prop}
/-- a loop over a range; what stands there is told by the number of turns -/
theorem W_forN {γ : Type} {g : Tg} {body : SM} (n : Nat) (st : Nat → γ → List Slot) (c : γ) (h : ∀ i < n, ∀ c, ∃ S1, g (nI i) (st i c) = some S1 ∧ Wp body S1 fun o => ∃ c', o = .nx (st (i + 1) c') ∨ o = .ct (st (i + 1) c')) (q : ∀ c', Q (.nx (st n c'))) :
    Wp (fun S => forL g body ((List.range n).map nI) S) (st 0 c) Q := by
  refine W_forE (β := Nat) nI st (fun s _ => s + 1) (fun i s => s = i) 0 c rfl (fun i x hx s c hs => ?_) (fun c' hc => ?_)
  · subst hs
    obtain ⟨hi, rfl⟩ : s < n ∧ s = x := by
      obtain ⟨h1, h2⟩ := List.getElem?_eq_some_iff.mp hx
      rw [List.length_range] at h1
      rw [List.getElem_range] at h2
      exact ⟨h1, h2⟩
    exact ⟨rfl, h s hi c⟩
  · rw [hc, List.length_range]
    exact q c'
/-- .. over any list -/
theorem W_forX {α γ : Type} (enc : α → D) {g : Tg} {body : SM} (xs : List α) (st : Nat → γ → List Slot) (c : γ) (h : ∀ i x, xs[i]? = some x → ∀ c, ∃ S1, g (enc x) (st i c) = some S1 ∧ Wp body S1 fun o => ∃ c', o = .nx (st (i + 1) c') ∨ o = .ct (st (i + 1) c')) (q : ∀ c', Q (.nx (st xs.length c'))) :
    Wp (fun S => forL g body (xs.map enc) S) (st 0 c) Q := by
  refine W_forE (β := Nat) enc st (fun s _ => s + 1) (fun i s => s = i) 0 c rfl (fun i x hx s c hs => ?_) (fun c' hc => ?_)
  · subst hs
    exact ⟨rfl, h s x hx c⟩
  · rw [hc]
    exact q c'
end
end FW

/-! FwC2: comprehensions with two fors. -/
namespace FW
open PySem PySem.Spec L2
open PyProof.Rows hiding St
section
variable {X : Cx} {W : WX} {pos : Pos}
theorem wipe_sub (vs : List Nat) : ∀ (us : List Nat) (τ : Sg), (∀ u ∈ us, u ∈ vs) → L2.wipe (L2.wipe τ us) vs = L2.wipe τ vs
  | [], _, _ => rfl
  | u :: us, τ, hu => by
    show L2.wipe ((L2.wipe τ us).set u none) vs = _
    rw [wipe_set (hu u (by simp))]
    exact wipe_sub vs us τ fun w hw => hu w (by simp [hw])
def compL2 (own vs1 : List Nat) (g : Tg) (t : EM Bool) (src1 : EM (List D)) (g1 : Tg) (t1 : EM Bool) (e : EM D) : List D → EM (List D)
  | [], S => .ok [] S
  | d :: ds, S => match g d S with
    | none => .bad
    | some S1 => match t S1 with
      | .ok true S2 => match src1 S2 with
        | .ok ds1 S3 => match compL vs1 g1 t1 e ds1 (wipeS vs1 S3) with
          | .ok ys S4 => match compL2 own vs1 g t src1 g1 t1 e ds (wipeS own S4) with
            | .ok zs S5 => .ok (ys ++ zs) S5
            | _ => .bad
          | _ => .bad
        | _ => .bad
      | .ok false S2 => compL2 own vs1 g t src1 g1 t1 e ds (wipeS own S2)
      | _ => .bad
def eComp2 (own vs1 : List Nat) (src : EM (List D)) (g : Tg) (t : EM Bool) (src1 : EM (List D)) (g1 : Tg) (t1 : EM Bool) (e : EM D) : EM (List D) := eBind src fun ds S => if plainAt own S then
    match compL2 own vs1 g t src1 g1 t1 e ds (wipeS own S) with
    | .ok ys S' => if small ys.length then .ok ys (restS own S S') else .bad
    | _ => .bad
  else .bad
theorem comp2_rd {own vs1 is is1 : List Nat} {g g1 : Tg} {t t1 : EM Bool} {e : EM D} {m m1 : EM (List D)} {σ : Sg} {H : Hp} {Q : L2.VK} (hsub : ∀ i ∈ is, i ∈ own) (hsub1 : ∀ i ∈ is1, i ∈ vs1) (hv : ∀ i ∈ vs1, i ∈ own) (q : tF (gx X W) (eComp2 own vs1 m g t m1 g1 t1 e) σ H Q) :
    tLc2 (tI (gx X W) m) (tG (gx X W) is g) (tB' (gx X W) t) (tI (gx X W) m1) (tG (gx X W) is1 g1) (tB' (gx X W) t1) (tD (gx X W) e) own vs1 σ H Q := by
  obtain ⟨S, Z, F, h, q⟩ := q
  refine ⟨S, Z, F, h, (Go.bind q).mono fun ds S1 c1 s1 h1 q1 J it A hA => ?_⟩
  by_cases hb : plainAt own S1 = true
  rotate_left
  · rw [if_neg hb] at q1
    exact q1.elim
  rw [if_pos hb] at q1
  obtain ⟨F0, sub0, h0⟩ := h1.wipe own
  cases eC : compL2 own vs1 g t m1 g1 t1 e ds (wipeS own S1) with
  | bad => simp only [eC] at q1; exact q1.elim
  | ex x S2 => simp only [eC] at q1; exact q1.elim
  | ok ys Sz =>
    simp only [eC] at q1
    by_cases hsm : small ys.length = true
    rotate_left
    · rw [if_neg hsm] at q1
      exact q1.elim
    rw [if_pos hsm] at q1
    have hsz : ys.length ≤ sizeLine := of_decide_eq_true hsm
    refine ⟨fun i k H' => k = ds.length - i ∧ i ≤ ds.length ∧ ∃ S' c' acc rest, c'.H = H' ∧ Holds X.K S' (L2.wipe σ own) c' ∧ Mk1 X.K c1 c' A acc ∧ compL2 own vs1 g t m1 g1 t1 e (ds.drop i) S' = .ok rest Sz ∧ acc ++ rest = ys, ⟨ds.length, ?_⟩, fun i k H' w => ?_⟩
    · have hn0 : (⟨c1.Z, c1.H, F0⟩ : Cfg).H A = none := hA
      obtain ⟨s2, h2⟩ := h0.tmpS (o := .lst []) hn0
      exact ⟨by simp, by simp, wipeS own S1, (⟨c1.Z, c1.H, F0⟩ : Cfg).tmp A (.lst []), [], ys, rfl, h2, ⟨(Stp.sub sub0).tmpU hA, hA, ⟨[], upd_same, .nil⟩, h1.nf hA, fun mm => h1.nF hA (sub0 A mm)⟩, by simpa using eC, rfl⟩
    · obtain ⟨ek, hi, S', c', acc, rest, eH, h', mk, ec, ey⟩ := w
      subst eH
      by_cases hlt : i < ds.length
      · obtain ⟨go, yld⟩ := it.go i c' S' (L2.wipe σ own) hlt mk.st.z h'
        refine .inr ⟨go, fun H2 => ∃ S2 c2 acc2 rest2, c2.H = H2 ∧ Holds X.K S2 (L2.wipe σ own) c2 ∧ Mk1 X.K c1 c2 A acc2 ∧ compL2 own vs1 g t m1 g1 t1 e (ds.drop (i + 1)) S2 = .ok rest2 Sz ∧ acc2 ++ rest2 = ys, fun H2 n => ?_, fun x H2 y => ?_⟩
        · obtain ⟨S2, c2, acc2, rest2, n1, n2, n3, n5, n6⟩ := n
          exact ⟨ds.length - (i + 1), by omega, rfl, hlt, S2, c2, acc2, rest2, n1, n2, n3, n5, n6⟩
        · obtain ⟨c2, d, e2, ed, st2, h2, rd⟩ := yld x H2 y
          subst e2
          have dr : ds.drop i = d :: ds.drop (i + 1) := by
            rw [List.drop_eq_getElem_cons hlt]
            rw [List.getElem?_eq_getElem hlt] at ed
            rw [Option.some.inj ed]
          rw [dr] at ec
          unfold compL2 at ec
          cases eg : g d S' with
          | none => simp only [eg] at ec; cases ec
          | some S3 =>
            simp only [eg] at ec
            refine ⟨S', c2.Z, c2.F, d, S3, h2, rd, eg, fun σ3 c3 st3 h3 on => ?_⟩
            have wσ : L2.wipe σ3 own = L2.wipe σ own := (on own hsub).trans (wipe_wipe own σ)
            refine ⟨wσ, S3, c3.Z, c3.F, h3, ?_⟩
            have m3 := (mk.step st2).step st3
            cases et : t S3 with
            | bad => simp only [et] at ec; cases ec
            | ex x S4 => simp only [et] at ec; cases ec
            | ok b S4 =>
              intro c4 st4 h4
              have m4 := m3.step st4
              cases b with
              | false =>
                simp only [et] at ec
                refine iteF ?_
                obtain ⟨F5, sub5, h5⟩ := h4.wipe own
                rw [wσ] at h5
                exact ⟨_, ⟨c4.Z, c4.H, F5⟩, acc, rest, rfl, h5, m4.sub sub5, ec, ey⟩
              | true =>
                simp only [et] at ec
                refine iteT ?_
                refine ⟨S4, c4.Z, c4.F, h4, ?_⟩
                cases es : m1 S4 with
                | bad => simp only [es] at ec; cases ec
                | ex x S5 => simp only [es] at ec; cases ec
                | ok ds1 S5 =>
                  simp only [es] at ec
                  intro c5 st5 h5 J1 it1
                  have m5 := m4.step st5
                  cases eL : compL vs1 g1 t1 e ds1 (wipeS vs1 S5) with
                  | bad => simp only [eL] at ec; cases ec
                  | ex x S6 => simp only [eL] at ec; cases ec
                  | ok ys1 S6 =>
                    simp only [eL] at ec
                    cases eR : compL2 own vs1 g t m1 g1 t1 e (ds.drop (i + 1)) (wipeS own S6) with
                    | bad => simp only [eR] at ec; cases ec
                    | ex x S7 => simp only [eR] at ec; cases ec
                    | ok zs S7 =>
                      simp only [eR] at ec
                      cases ec
                      obtain ⟨F6, sub6, h6⟩ := h5.wipe vs1
                      refine ⟨fun j k H' => k = ds1.length - j ∧ j ≤ ds1.length ∧ ∃ S' c' acc1 rest1, c'.H = H' ∧ Holds X.K S' (L2.wipe σ3 vs1) c' ∧ Mk1 X.K c1 c' A acc1 ∧ Same c5.Z c'.Z ∧ compL vs1 g1 t1 e (ds1.drop j) S' = .ok rest1 S6 ∧ acc1 ++ rest1 = acc ++ ys1, ⟨ds1.length, ?_⟩, fun j k H' w => ?_⟩
                      · exact ⟨by simp, by simp, wipeS vs1 S5, ⟨c5.Z, c5.H, F6⟩, acc, ys1, rfl, h6, m5.sub sub6, Same.refl _, by simpa using eL, rfl⟩
                      · obtain ⟨ek1, hj, S8, c8, acc1, rest1, eH, h8, mk8, sm8, ec8, ey8⟩ := w
                        subst eH
                        by_cases hlt1 : j < ds1.length
                        · obtain ⟨go1, yld1⟩ := it1.go j c8 S8 (L2.wipe σ3 vs1) hlt1 sm8 h8
                          refine .inr ⟨go1, fun H2 => ∃ S2 c2 acc2 rest2, c2.H = H2 ∧ Holds X.K S2 (L2.wipe σ3 vs1) c2 ∧ Mk1 X.K c1 c2 A acc2 ∧ Same c5.Z c2.Z ∧ compL vs1 g1 t1 e (ds1.drop (j + 1)) S2 = .ok rest2 S6 ∧ acc2 ++ rest2 = acc ++ ys1, fun H2 n => ?_, fun x H2 y => ?_⟩
                          · obtain ⟨S2, c2, acc2, rest2, n1, n2, n3, n4, n5, n6⟩ := n
                            exact ⟨ds1.length - (j + 1), by omega, rfl, hlt1, S2, c2, acc2, rest2, n1, n2, n3, n4, n5, n6⟩
                          · obtain ⟨c9, d1, e9, ed9, st9, h9, rd9⟩ := yld1 x H2 y
                            subst e9
                            have dr1 : ds1.drop j = d1 :: ds1.drop (j + 1) := by
                              rw [List.drop_eq_getElem_cons hlt1]
                              rw [List.getElem?_eq_getElem hlt1] at ed9
                              rw [Option.some.inj ed9]
                            rw [dr1] at ec8
                            unfold compL at ec8
                            cases eg1 : g1 d1 S8 with
                            | none => simp only [eg1] at ec8; cases ec8
                            | some Sa =>
                              simp only [eg1] at ec8
                              refine ⟨S8, c9.Z, c9.F, d1, Sa, h9, rd9, eg1, fun σa ca sta ha on1 => ?_⟩
                              have wσ1 : L2.wipe σa vs1 = L2.wipe σ3 vs1 := (on1 vs1 hsub1).trans (wipe_wipe vs1 σ3)
                              refine ⟨wσ1, Sa, ca.Z, ca.F, ha, ?_⟩
                              have ma := (mk8.step st9).step sta
                              have sa := (sm8.trans st9.z).trans sta.z
                              cases et1 : t1 Sa with
                              | bad => simp only [et1] at ec8; cases ec8
                              | ex x S4 => simp only [et1] at ec8; cases ec8
                              | ok b Sb =>
                                intro cb stb hb'
                                have mb := ma.step stb
                                have sb := sa.trans stb.z
                                cases b with
                                | false =>
                                  simp only [et1] at ec8
                                  refine iteF ?_
                                  obtain ⟨Fb, subb, hbw⟩ := hb'.wipe vs1
                                  rw [wσ1] at hbw
                                  exact ⟨_, ⟨cb.Z, cb.H, Fb⟩, acc1, rest1, rfl, hbw, mb.sub subb, sb, ec8, ey8⟩
                                | true =>
                                  simp only [et1] at ec8
                                  refine iteT ?_
                                  refine ⟨Sb, cb.Z, cb.F, hb', ?_⟩
                                  cases ee : e Sb with
                                  | bad => simp only [ee] at ec8; cases ec8
                                  | ex x S5 => simp only [ee] at ec8; cases ec8
                                  | ok yv Sc =>
                                    simp only [ee] at ec8
                                    intro cc stc hcc v rv
                                    have mc := mb.step stc
                                    have sc := sb.trans stc.z
                                    obtain ⟨vs, e5, r5⟩ := mc.at'
                                    cases er : compL vs1 g1 t1 e (ds1.drop (j + 1)) (wipeS vs1 Sc) with
                                    | bad => simp only [er] at ec8; cases ec8
                                    | ex x S6 => simp only [er] at ec8; cases ec8
                                    | ok ys2 Sd =>
                                      simp only [er] at ec8
                                      cases ec8
                                      obtain ⟨Fd, subd, hd⟩ := hcc.wipe vs1
                                      rw [wσ1] at hd
                                      have md := mc.sub subd
                                      have hlen : acc1.length + 1 + ys2.length + zs.length ≤ sizeLine := by
                                        have q2 := congrArg List.length ey8
                                        have q3 := congrArg List.length ey
                                        simp at q2 q3
                                        omega
                                      refine ⟨vs, e5, by have := r5.length; omega, _, (⟨cc.Z, cc.H, Fd⟩ : Cfg).tmp A (.lst (vs ++ [v])), acc1 ++ [yv], ys2, rfl, hd.tmp md.nf md.zn fun _ _ => ⟨_, rfl⟩, md.push e5 r5 rv, sc, er, by simpa using ey8⟩
                        · have e0 : ds1.drop j = [] := List.drop_eq_nil_of_le (by omega)
                          rw [e0] at ec8
                          cases ec8
                          rw [List.append_nil] at ey8
                          refine .inl ⟨it1.stop j c8 S6 (L2.wipe σ3 vs1) (by omega) sm8 h8, ?_⟩
                          obtain ⟨Fe, sube, he⟩ := h8.wipe own
                          rw [wipe_sub own vs1 σ3 hv, wσ] at he
                          refine ⟨wipeS own S6, ⟨c8.Z, c8.H, Fe⟩, acc1, zs, rfl, he, mk8.sub sube, eR, ?_⟩
                          rw [ey8, List.append_assoc]
                          exact ey
      · have e0 : ds.drop i = [] := List.drop_eq_nil_of_le (by omega)
        rw [e0] at ec
        cases ec
        rw [List.append_nil] at ey
        subst ey
        refine .inl ⟨it.stop i c' Sz (L2.wipe σ own) (by omega) mk.st.z h', ?_⟩
        obtain ⟨vs, ev, rv⟩ := mk.at'
        have hne : ∀ b, b ≠ A → (fun b => if b = A then none else c'.H b : Hp) b = c'.H b := fun b hb => if_neg hb
        have hcA : (fun b => if b = A then none else c'.H b : Hp) A = none := if_pos rfl
        have hh : Holds X.K Sz (L2.wipe σ own) ⟨c'.Z, fun b => if b = A then none else c'.H b, c'.F⟩ := by
          refine ⟨HoldsL.tr (c := c') (c' := ⟨c'.Z, fun b => if b = A then none else c'.H b, c'.F⟩) (Same.refl c'.Z) h'.l fun a ha => hne a fun z => mk.nf (z ▸ ha), h'.nd, h'.zf, fun b o q => ?_⟩
          have nb : b ≠ A := by
            rintro rfl
            have q' : c'.Z b = some o := q
            rw [mk.zn] at q'
            cases q'
          exact (hne b nb).trans (h'.zh b o q)
        obtain ⟨F7, sub7, h7⟩ := Holds.back h1 hb hh mk.st.z
        have st7 : Stp c1 ⟨c'.Z, fun b => if b = A then none else c'.H b, F7⟩ := by
          refine ⟨mk.st.z, fun b o q hn => ?_, fun b o q => ?_, mk.st.n, fun b hm => mk.st.f b (sub7 b hm)⟩
          · have nb : b ≠ A := by
              rintro rfl
              rw [mk.hn] at q
              cases q
            exact (hne b nb).trans (mk.st.k b o q hn)
          · have nb : b ≠ A := by
              rintro rfl
              rw [mk.hn] at q
              cases q
            obtain ⟨o', q'⟩ := mk.st.t b o q
            exact ⟨o', (hne b nb).trans q'⟩
        have fin := q1 _ st7 h7 A vs hcA rv
        have eq : upd (fun b => if b = A then none else c'.H b) A (.lst vs) = c'.H := by
          funext b
          by_cases hb' : b = A
          · subst hb'
            rw [upd_same, ev]
          · rw [upd_ne hb']
            exact hne b hb'
        have fin' : Q (.ref A) (upd (fun b => if b = A then none else c'.H b) A (.lst vs)) := fin
        rw [eq] at fin'
        exact fin'
section
variable {elt tg iter tg1 iter1 : Expr} {ifs ifs1 : List Expr} {scope : Scope} {own : List (Str × Nat)} {vs1 is is1 : List Nat} {m m1 : EM (List D)} {g g1 : Tg} {t t1 : EM Bool} {e : EM D} {y : Str} {py spos : Pos}
theorem df_comp2 (hc : X.calm = true) (hN : X.N.Nodup) (hi : DI X W tg iter m) (ok : BlkOk X.N X.env.scope scope own) (hv : ∀ i ∈ vs1, i ∈ own.map (·.2))
    (hg : ∀ (s : Shared) (H : Hp) (C : Addr) (cl : List (Str × Addr)) (fp : List Addr), DG (X.blk s H scope (compEnvC scope cl C X.env) fp) W tg is g) (ht : ∀ (s : Shared) (H : Hp) (C : Addr) (cl : List (Str × Addr)) (fp : List Addr), DTs (X.blk s H scope (compEnvC scope cl C X.env) fp) W ifs t)
    (hi1 : ∀ (s : Shared) (H : Hp) (C : Addr) (cl : List (Str × Addr)) (fp : List Addr), DI (X.blk s H scope (compEnvC scope cl C X.env) fp) W tg1 iter1 m1)
    (hg1 : ∀ (s : Shared) (H : Hp) (C : Addr) (cl : List (Str × Addr)) (fp : List Addr), DG (X.blk s H scope (compEnvC scope cl C X.env) fp) W tg1 is1 g1) (ht1 : ∀ (s : Shared) (H : Hp) (C : Addr) (cl : List (Str × Addr)) (fp : List Addr), DTs (X.blk s H scope (compEnvC scope cl C X.env) fp) W ifs1 t1)
    (he : ∀ (s : Shared) (H : Hp) (C : Addr) (cl : List (Str × Addr)) (fp : List Addr), DE (X.blk s H scope (compEnvC scope cl C X.env) fp) W elt e) (hsub : ∀ i ∈ is, i ∈ own.map (·.2)) (hsub1 : ∀ i ∈ is1, i ∈ vs1) (hs : ∀ x, foldedSetIterable iter X.env x = pure x := by intro _; rfl) (hs1 : ∀ env x, foldedSetIterable iter1 env x = pure x := by intro _ _; rfl) :
    DF X W (.ListComp elt [⟨tg, iter, ifs, 0⟩, ⟨tg1, iter1, ifs1, 0⟩] scope pos) (eComp2 (own.map (·.2)) vs1 m g t m1 g1 t1 e) := PE.wk (pe_lc2 (g := tG (gx X W) is g) (tt := tB' (gx X W) t) (wi1 := tI (gx X W) m1) (g1 := tG (gx X W) is1 g1) (tt1 := tB' (gx X W) t1) (te := tD (gx X W) e) hc hN hi ok hv hg ht hi1 hg1 ht1 he hs hs1) fun σ H Q q => comp2_rd hsub hsub1 hv q
theorem ds_ownLc2 (i : Nat) (hc : X.calm = true) (hN : X.N.Nodup) (hi : DI X W tg iter m) (ok : BlkOk X.N X.env.scope scope own) (hv : ∀ i ∈ vs1, i ∈ own.map (·.2))
    (hg : ∀ (s : Shared) (H : Hp) (C : Addr) (cl : List (Str × Addr)) (fp : List Addr), DG (X.blk s H scope (compEnvC scope cl C X.env) fp) W tg is g) (ht : ∀ (s : Shared) (H : Hp) (C : Addr) (cl : List (Str × Addr)) (fp : List Addr), DTs (X.blk s H scope (compEnvC scope cl C X.env) fp) W ifs t)
    (hi1 : ∀ (s : Shared) (H : Hp) (C : Addr) (cl : List (Str × Addr)) (fp : List Addr), DI (X.blk s H scope (compEnvC scope cl C X.env) fp) W tg1 iter1 m1)
    (hg1 : ∀ (s : Shared) (H : Hp) (C : Addr) (cl : List (Str × Addr)) (fp : List Addr), DG (X.blk s H scope (compEnvC scope cl C X.env) fp) W tg1 is1 g1) (ht1 : ∀ (s : Shared) (H : Hp) (C : Addr) (cl : List (Str × Addr)) (fp : List Addr), DTs (X.blk s H scope (compEnvC scope cl C X.env) fp) W ifs1 t1)
    (he : ∀ (s : Shared) (H : Hp) (C : Addr) (cl : List (Str × Addr)) (fp : List Addr), DE (X.blk s H scope (compEnvC scope cl C X.env) fp) W elt e) (hsub : ∀ i ∈ is, i ∈ own.map (·.2)) (hsub1 : ∀ i ∈ is1, i ∈ vs1)
    (hsw : swapsWith (.ListComp elt [⟨tg, iter, ifs, 0⟩, ⟨tg1, iter1, ifs1, 0⟩] scope pos) (some (.Name y py)) spos.line X.env = pure true) (hy : X.N[i]? = some y := by rfl) (hyl : X.env.scope.names.lookup y = some .local := by rfl) (hs : ∀ x, foldedSetIterable iter X.env x = pure x := by intro _; rfl) (hs1 : ∀ env x, foldedSetIterable iter1 env x = pure x := by intro _ _; rfl) :
    DS X W (.Assign [.Name y py] (.ListComp elt [⟨tg, iter, ifs, 0⟩, ⟨tg1, iter1, ifs1, 0⟩] scope pos) spos) (sOwn i (eComp2 (own.map (·.2)) vs1 m g t m1 g1 t1 e)) :=
  PS.wk (ps_setLc2 (g := tG (gx X W) is g) (tt := tB' (gx X W) t) (wi1 := tI (gx X W) m1) (g1 := tG (gx X W) is1 g1) (tt1 := tB' (gx X W) t1) (te := tD (gx X W) e) hc hN hy hyl hsw hi ok hv hg ht hi1 hg1 ht1 he hs hs1) fun Q σ H q => comp2_rd hsub hsub1 hv (own_rd Q σ H q)
theorem ds_datLc2 (i : Nat) (hc : X.calm = true) (hN : X.N.Nodup) (hi : DI X W tg iter m) (ok : BlkOk X.N X.env.scope scope own) (hv : ∀ i ∈ vs1, i ∈ own.map (·.2))
    (hg : ∀ (s : Shared) (H : Hp) (C : Addr) (cl : List (Str × Addr)) (fp : List Addr), DG (X.blk s H scope (compEnvC scope cl C X.env) fp) W tg is g) (ht : ∀ (s : Shared) (H : Hp) (C : Addr) (cl : List (Str × Addr)) (fp : List Addr), DTs (X.blk s H scope (compEnvC scope cl C X.env) fp) W ifs t)
    (hi1 : ∀ (s : Shared) (H : Hp) (C : Addr) (cl : List (Str × Addr)) (fp : List Addr), DI (X.blk s H scope (compEnvC scope cl C X.env) fp) W tg1 iter1 m1)
    (hg1 : ∀ (s : Shared) (H : Hp) (C : Addr) (cl : List (Str × Addr)) (fp : List Addr), DG (X.blk s H scope (compEnvC scope cl C X.env) fp) W tg1 is1 g1) (ht1 : ∀ (s : Shared) (H : Hp) (C : Addr) (cl : List (Str × Addr)) (fp : List Addr), DTs (X.blk s H scope (compEnvC scope cl C X.env) fp) W ifs1 t1)
    (he : ∀ (s : Shared) (H : Hp) (C : Addr) (cl : List (Str × Addr)) (fp : List Addr), DE (X.blk s H scope (compEnvC scope cl C X.env) fp) W elt e) (hsub : ∀ i ∈ is, i ∈ own.map (·.2)) (hsub1 : ∀ i ∈ is1, i ∈ vs1)
    (hsw : swapsWith (.ListComp elt [⟨tg, iter, ifs, 0⟩, ⟨tg1, iter1, ifs1, 0⟩] scope pos) (some (.Name y py)) spos.line X.env = pure true) (hy : X.N[i]? = some y := by rfl) (hyl : X.env.scope.names.lookup y = some .local := by rfl) (hs : ∀ x, foldedSetIterable iter X.env x = pure x := by intro _; rfl) (hs1 : ∀ env x, foldedSetIterable iter1 env x = pure x := by intro _ _; rfl) :
    DS X W (.Assign [.Name y py] (.ListComp elt [⟨tg, iter, ifs, 0⟩, ⟨tg1, iter1, ifs1, 0⟩] scope pos) spos) (sDat i (eComp2 (own.map (·.2)) vs1 m g t m1 g1 t1 e)) :=
  PS.wk (ps_setLc2 (g := tG (gx X W) is g) (tt := tB' (gx X W) t) (wi1 := tI (gx X W) m1) (g1 := tG (gx X W) is1 g1) (tt1 := tB' (gx X W) t1) (te := tD (gx X W) e) hc hN hy hyl hsw hi ok hv hg ht hi1 hg1 ht1 he hs hs1) fun Q σ H q => comp2_rd hsub hsub1 hv (dat_rd Q σ H q)
end
end
end FW

/-! FwSo: sorted lists of any data of one kind. -/
namespace FW
open PySem PySem.Spec L2
open PyProof.Rows hiding St
section
variable {X : Cx} {W : WX}
def isTup1 : D → Bool
  | .tuple (_ :: _) => true
  | _ => false
def noTupN : D → Bool
  | .tuple _ => false
  | .none => false
  | _ => true
def okSort (ds : List D) : Bool := noDictA ds && ds.all (shal 8) && (ds.all fun d => ds.all fun e => PySem.W.alike d e) && (ds.all isTup1 || ds.all noTupN) && small ds.length
/-- mergeSort by fuel, so that it can be evaluated -/
def mgF {α : Type} (le : α → α → Bool) : Nat → List α → List α → List α
  | 0, xs, ys => xs ++ ys
  | _ + 1, [], ys => ys
  | _ + 1, x :: xs, [] => x :: xs
  | n + 1, x :: xs, y :: ys => if le x y then x :: mgF le n xs (y :: ys) else y :: mgF le n (x :: xs) ys
theorem mgF_eq {α : Type} (le : α → α → Bool) : ∀ (n : Nat) (xs ys : List α), xs.length + ys.length ≤ n → mgF le n xs ys = List.merge xs ys le
  | 0, [], [], _ => by simp [mgF]
  | 0, _ :: _, _, h => by simp at h
  | 0, [], _ :: _, h => by simp at h
  | n + 1, [], ys, _ => by simp [mgF]
  | n + 1, x :: xs, [], _ => by simp [mgF]
  | n + 1, x :: xs, y :: ys, h => by
    simp only [mgF, List.cons_merge_cons]
    simp only [List.length_cons] at h
    split
    · rw [mgF_eq le n xs (y :: ys) (by simp only [List.length_cons]; omega)]
    · rw [mgF_eq le n (x :: xs) ys (by simp only [List.length_cons]; omega)]
def msF {α : Type} (le : α → α → Bool) : Nat → List α → List α
  | 0, l => l
  | _ + 1, [] => []
  | _ + 1, [a] => [a]
  | n + 1, a :: b :: l => mgF le (l.length + 2) (msF le n ((a :: b :: l).take ((l.length + 2 + 1) / 2))) (msF le n ((a :: b :: l).drop ((l.length + 2 + 1) / 2)))
theorem msF_eq {α : Type} (le : α → α → Bool) : ∀ (n : Nat) (l : List α), l.length ≤ n → msF le n l = l.mergeSort le
  | 0, [], _ => by simp [msF]
  | 0, _ :: _, h => by simp at h
  | n + 1, [], _ => by simp [msF]
  | n + 1, [a], _ => by simp [msF]
  | n + 1, a :: b :: l, h => by
    have hl : (a :: b :: l).length = l.length + 2 := rfl
    rw [hl] at h
    have h1 : ((a :: b :: l).take ((l.length + 2 + 1) / 2)).length ≤ n := by rw [List.length_take, hl]; omega
    have h2 : ((a :: b :: l).drop ((l.length + 2 + 1) / 2)).length ≤ n := by rw [List.length_drop, hl]; omega
    unfold msF
    rw [msF_eq le n _ h1, msF_eq le n _ h2, mgF_eq _ _ _ _ (by rw [List.length_mergeSort, List.length_mergeSort, List.length_take, List.length_drop, hl]; omega)]
    rw [List.mergeSort]
    simp [List.MergeSort.Internal.splitInTwo_fst, List.MergeSort.Internal.splitInTwo_snd]
abbrev srtD (ds : List D) : List D := ds.mergeSort (PySem.W.dataLe false id)
def srtY (ds : List D) : List D := msF (PySem.W.dataLe false id) ds.length ds
theorem srtY_eq (ds : List D) : srtY ds = srtD ds := msF_eq _ _ _ (Nat.le_refl _)
def rSortedAny (K : PySem.W.Frag) : List V → Hp → L2.VK → Prop := fun vs H Q => ∃ (a : Addr) (xs : List V) (ds : List D) (R : V → D → Prop), vs = [V.ref a] ∧ SqL K H a xs ∧ PySem.W.EachIs R xs ds ∧ (∀ v d, R v d → Dp K H v d) ∧ PySem.W.AllAlike ds ∧ PySem.W.Sortable ds ∧ (∀ d ∈ ds, d.depth ≤ 60) ∧
  ∀ (ys : List V) (p : Addr), PySem.W.EachIs R ys (srtD ds) → H p = none → Q (.ref p) (upd H p (.lst ys))
theorem each_len {α β : Type} {R : α → β → Prop} : ∀ {as : List α} {bs : List β}, PySem.W.EachIs R as bs → as.length = bs.length
  | _, _, .nil => rfl
  | _, _, .cons _ h => by simp [each_len h]
theorem each_vals {R : V → D → Prop} : ∀ {xs : List V} {us : List Value} {ds : List D}, Vals xs us → PySem.W.EachIs R xs ds → PySem.W.EachIs (fun u d => ∃ v, RelV v u ∧ R v d) us ds
  | _, _, _, .nil, .nil => .nil
  | _, _, _, .cons h t, .cons r e => .cons ⟨_, h, r⟩ (each_vals t e)
theorem vals_each {R : V → D → Prop} : ∀ {us : List Value} {ds : List D}, PySem.W.EachIs (fun u d => ∃ v, RelV v u ∧ R v d) us ds → ∃ ys, Vals ys us ∧ PySem.W.EachIs R ys ds
  | _, _, .nil => ⟨[], .nil, .nil⟩
  | _, _, .cons ⟨v, h, r⟩ t => by
    obtain ⟨ys, h1, h2⟩ := vals_each t
    exact ⟨v :: ys, .cons h h1, .cons r h2⟩
theorem cr_sortedAny (hu : X.A.units + 64 < cLine) : CallR X (.builtin "sorted") (rSortedAny X.K) := by
  intro pins s σ H vs us Q I r h
  obtain ⟨a, xs, ds, R, rfl, hs, hR, hD, hal, hk, hdep, q⟩ := h
  obtain ⟨its, rv, hl, hz⟩ := I.list hs
  rw [Vals.ref1 r]
  have hlen : its.length = ds.length := by rw [← rv.length]; exact each_len hR
  refine PySem.W.sorted_data (enc := id) (R := fun u d => ∃ v, RelV v u ∧ R v d) (bs := ds) (vs := its) hl.isList (each_vals rv hR) ?_ (by rw [List.map_id]; exact hal) (by rw [List.map_id]; exact hk) (by rw [← each_len hR]; exact hz) (fun d hd => by
    have := hdep d hd
    show X.A.units + 2 + d.depth < cLine
    omega) fun out ho eo => ?_
  · exact (each_vals rv hR).mono fun u d ⟨v, h1, h2⟩ => Dp.reads I d v u (hD v d h2) h1
  · obtain ⟨ys, h1, h2⟩ := vals_each eo
    obtain ⟨ep, he'⟩ := PyProof.Rows.sortedAll_at s.heap its out.toArray
    have hy : ys.length ≤ sizeLine := by
      rw [h1.length, ho, ← hlen, ← rv.length]
      exact hz
    exact ⟨.ref _, upd H (s.heap.objs.size + 1) (.lst ys), I.laid (t' := s.toks) (fun _ _ => PyProof.Rows.sortedAll_old) (Nat.le_succ _) ⟨hy, out, ep, h1, he'⟩, rfl, q ys _ h2 (I.hok.fresh (Nat.le_succ _))⟩
theorem rpa_each {K : PySem.W.Frag} {Z : Hp} : ∀ {vs : List V} {ds : List D}, RpA K Z vs ds → PySem.W.EachIs (fun v d => Rp K Z v d) vs ds
  | _, [], h => by cases h; exact .nil
  | _, d :: ds, h => by
    cases h with
    | cons h1 h2 => exact .cons h1 (rpa_each h2)
theorem rpa_eachN {K : PySem.W.Frag} {Z : Hp} : ∀ {vs : List V} {ds : List D}, RpA K Z vs ds → noDictA ds = true → PySem.W.EachIs (fun v d => Rp K Z v d ∧ noDict d = true) vs ds
  | _, [], h, _ => by cases h; exact .nil
  | _, d :: ds, h, n => by
    rw [noDictA, Bool.and_eq_true] at n
    cases h with
    | cons h1 h2 => exact .cons ⟨h1, n.1⟩ (rpa_eachN h2 n.2)
theorem each_rpa {K : PySem.W.Frag} {Z : Hp} {P : D → Prop} : ∀ {vs : List V} {ds : List D}, PySem.W.EachIs (fun v d => Rp K Z v d ∧ P d) vs ds → RpA K Z vs ds
  | _, _, .nil => .nil
  | _, _, .cons h t => .cons h.1 (each_rpa t)
def sortedG : List D → Option (List D)
  | [.list ds] => if okSort ds then some (srtY ds) else none
  | _ => none
theorem cf_sortedG (hu : X.A.units + 64 < cLine) : CallF X W (.builtin "sorted") sortedG := by
  refine ⟨_, cr_sortedAny hu, fun vs ds es S σ c Q e hh rs q => ?_⟩
  unfold sortedG at e
  split at e
  · rename_i es'
    split at e
    rotate_left
    · cases e
    rename_i hok
    rw [srtY_eq] at e
    cases e
    unfold okSort at hok
    simp only [Bool.and_eq_true, Bool.or_eq_true, List.all_eq_true] at hok
    obtain ⟨⟨⟨⟨k1, k2⟩, k3⟩, k4⟩, k5⟩ := hok
    obtain ⟨v, rfl, r⟩ := rs.one
    obtain ⟨a, xs, rfl, a1, r1⟩ := r.lstI hh.zh
    refine ⟨a, xs, es', fun v d => Rp X.K c.Z v d ∧ noDict d = true, rfl, SqL.of a1, rpa_eachN r1 k1, fun v d h => Rp.dp (h.1.mono hh.zh) h.2, fun d hd e he => k3 d hd e he, ?_, fun d hd => ?_, fun ys p h2 hp => q c p ys (Stp.refl _) hh hp (each_rpa h2)⟩
    · rcases k4 with k4 | k4
      · refine .inl fun d hd => ?_
        have := k4 d hd
        cases d with
        | tuple xs => cases xs with
          | nil => simp [isTup1] at this
          | cons x r => exact ⟨x, r, rfl⟩
        | _ => simp [isTup1] at this
      · refine .inr fun d hd => ?_
        have := k4 d hd
        cases d with
        | tuple xs => simp [noTupN] at this
        | none => simp [noTupN] at this
        | _ => exact ⟨nofun, nofun⟩
    · have := shal_depth 8 d (k2 d hd)
      omega
  · cases e
/-- one thing at most -/
def rSorted1 (K : PySem.W.Frag) : List V → Hp → L2.VK → Prop := fun vs H Q => ∃ (a : Addr) (xs : List V), vs = [V.ref a] ∧ SqL K H a xs ∧ xs.length ≤ 1 ∧ ∀ p : Addr, H p = none → Q (.ref p) (upd H p (.lst xs))
theorem cr_sorted1 : CallR X (.builtin "sorted") (rSorted1 X.K) := by
  intro pins s σ H vs us Q I r h
  obtain ⟨a, xs, rfl, hs, hl1, q⟩ := h
  obtain ⟨its, rv, hl, hz⟩ := I.list hs
  rw [Vals.ref1 r]
  have hlen : its.length = xs.length := rv.length.symm
  refine Srt.sorted_any hl.isList (by rw [hlen]; exact hz) (fun h2 => by omega) fun out hp => ?_
  have eo : out = its := by
    match its, hlen, hp with
    | [], _, hp => exact List.perm_nil.mp hp
    | [x], _, hp => exact List.perm_singleton.mp hp
    | _ :: _ :: _, hlen, _ => simp at hlen; omega
  subst eo
  obtain ⟨ep, he'⟩ := PyProof.Rows.sortedAll_at s.heap out out.toArray
  exact ⟨.ref _, upd H (s.heap.objs.size + 1) (.lst xs), I.laid (t' := s.toks) (fun _ _ => PyProof.Rows.sortedAll_old) (Nat.le_succ _) ⟨hz, out, ep, rv, he'⟩, rfl, q _ (I.hok.fresh (Nat.le_succ _))⟩
def sorted1 : List D → Option (List D)
  | [.list []] => some []
  | [.list [d]] => some [d]
  | _ => none
theorem cf_sorted1 : CallF X W (.builtin "sorted") sorted1 := by
  refine ⟨_, cr_sorted1, fun vs ds es S σ c Q e hh rs q => ?_⟩
  unfold sorted1 at e
  split at e
  · cases e
    obtain ⟨v, rfl, r⟩ := rs.one
    obtain ⟨a, xs, rfl, a1, r1⟩ := r.lstI hh.zh
    cases r1
    exact ⟨a, [], rfl, SqL.of a1, by simp, fun p hp => q c p [] (Stp.refl _) hh hp .nil⟩
  · cases e
    obtain ⟨v, rfl, r⟩ := rs.one
    obtain ⟨a, xs, rfl, a1, r1⟩ := r.lstI hh.zh
    have hl := r1.length
    exact ⟨a, xs, rfl, SqL.of a1, by rw [hl]; simp, fun p hp => q c p xs (Stp.refl _) hh hp r1⟩
  · cases e
/-- ints, or any data of one kind, or one thing at most -/
def sortedX0 (as : List D) : Option (List D) := match sortedD as with
  | some r => some r
  | none => sortedG as
def sortedX (as : List D) : Option (List D) := match sortedX0 as with
  | some r => some r
  | none => sorted1 as
theorem sortedX_G {as r : List D} (h0 : sortedD as = none) (h : sortedG as = some r) : sortedX as = some r := by
  unfold sortedX sortedX0
  rw [h0, h]
theorem CallF.orElse {f : Value} {g g' : List D → Option (List D)} (h : CallF X W f g) (h' : CallF X W f g') : CallF X W f (fun as => match g as with | some r => some r | none => g' as) := by
  obtain ⟨r, h1, h2⟩ := h
  obtain ⟨r', h1', h2'⟩ := h'
  refine ⟨_, CallR.or' h1 h1', fun vs ds es S σ c Q e hh rs q => ?_⟩
  cases eg : g ds with
  | some x =>
    simp only [eg] at e
    cases e
    exact .inl (h2 vs ds es S σ c Q eg hh rs q)
  | none =>
    simp only [eg] at e
    exact .inr (h2' vs ds es S σ c Q e hh rs q)
theorem cf_sortedX (hu : X.A.units + 64 < cLine) : CallF X W (.builtin "sorted") sortedX := CallF.orElse (CallF.orElse cf_sorted (cf_sortedG hu)) cf_sorted1
end
end FW

/-! FwL1: zip of a tuple and a list, lists of own lists, statements that are never reached. -/
namespace FW
open PySem PySem.Spec L2
open PyProof.Rows hiding St
/-- the tuple at a and the list at b, n turns -/
def ItzM (K : PySem.W.Frag) (a b : Addr) (n : Nat) : It :=
  ⟨fun i H => i < n ∧ ∃ (xs ys : List V), SqT K H a xs ∧ SqL K H b ys ∧ n ≤ xs.length ∧ n ≤ ys.length,
    fun i H v H' => ∃ T x y, v = .ref T ∧ H T = none ∧ H' = upd H T (.tup [x, y]) ∧ (∀ xs, SqT K H a xs → xs[i]? = some x) ∧ ∀ ys, SqL K H b ys → ys[i]? = some y,
    fun i H => n < i ∨ (i = n ∧ ∃ xs ys : List V, SqT K H a xs ∧ SqL K H b ys ∧ n = min xs.length ys.length)⟩
theorem turn_zipM {P : Program} {w : World} {K : PySem.W.Frag} {elts : List Expr} {kk : Nat} {tpos : Pos} {a b z TI TO i1 i2 : Addr} {n : Nat} (Dz : PySem.ZipSep2 z TI TO i1 i2 [i1, a] [i2, b]) :
    Turn P w K (.Tuple elts kk tpos) (ItzM K a b n) [z, TI, TO, i1, i2] z (fun i h => i ≤ n ∧ IsZip h z TI TO .none ∧ IsPair h TI (.ref i1) (.ref i2) ∧ (∃ x y, IsPair h TO x y) ∧ h.IsTupleIter i1 a i ∧ h.IsListIter i2 b i) where
  mem := List.mem_cons_self
  obj := fun i h st c hc => by
    obtain ⟨_, qz, qTI, ⟨x, y, qTO⟩, ⟨o1, e1, _, d1⟩, ⟨o2, e2, _, d2⟩⟩ := st
    simp only [List.mem_cons, List.not_mem_nil, or_false] at hc
    rcases hc with rfl | rfl | rfl | rfl | rfl
    · exact ⟨_, qz, nofun⟩
    · exact ⟨_, qTI, nofun⟩
    · exact ⟨_, qTO, nofun⟩
    · exact ⟨o1, e1, fun v q => nomatch d1.symm.trans q⟩
    · exact ⟨o2, e2, fun v q => nomatch d2.symm.trans q⟩
  keep := fun i h h' st k => by
    obtain ⟨q0, qz, qTI, ⟨x, y, qTO⟩, q1, q2⟩ := st
    exact ⟨q0, k z (by simp) _ qz, k TI (by simp) _ qTI, ⟨x, y, k TO (by simp) _ qTO⟩, q1.at fun o q => k i1 (by simp) o q, q2.at fun o q => k i2 (by simp) o q⟩
  item := by
    intro X hP hw hK hc i pins s σ H E I hf st hg
    subst hP hw hK
    obtain ⟨_, qz, qTI, ⟨x0, y0, qTO⟩, q1, q2⟩ := st
    obtain ⟨hin, xs, ys, sx, sy, lx, ly⟩ := hg
    obtain ⟨its, rv, p, _⟩ := I.tuple sx
    obtain ⟨its2, rv2, p2, _⟩ := I.list sy
    have L1 := rv.length
    have L2' := rv2.length
    have gx1 : xs[i]? = some (xs[i]'(by omega)) := List.getElem?_eq_getElem _
    have gy1 : ys[i]? = some (ys[i]'(by omega)) := List.getElem?_eq_getElem _
    obtain ⟨u, hu, ru⟩ := rv.get gx1
    obtain ⟨u2, hu2, ru2⟩ := rv2.get gy1
    have zl : z < s.heap.objs.size := Heap.lt_size qz
    have na : a ≠ i1 := fun e => by
      obtain ⟨o1, e1, c1, _⟩ := q1
      obtain ⟨o2, e2, c2, _⟩ := p
      rw [e, e1] at e2
      cases e2
      rw [c1] at c2
      exact absurd (Value.type.inj c2) (by decide)
    have nb : b ≠ i2 := fun e => by
      obtain ⟨o1, e1, c1, _⟩ := q2
      obtain ⟨o2, n2, e2, c2, _⟩ := p2
      rw [e, e1] at e2
      cases e2
      rw [c1] at c2
      exact absurd (Value.type.inj c2) (by decide)
    have hh0 : X.A.in1.handled = none := I.ok.hd hc
    refine wpAny_pyNext_zipD2_item Dz (Draws.tuple hh0 i1 a na its.toArray) (Draws.list hh0 i2 b nb its2.toArray) qz qTI qTO ⟨q1, p⟩ ⟨q2, p2.isList⟩ (by simp; omega) (by simp; omega) fun w1 w2 h' tk e1 e2 z' TO' s1 s2 hT hsz hk => ?_
    have w1e : w1 = u := by
      have := e1.symm.trans (show its.toArray[i]? = some u by simpa using hu)
      exact Option.some.inj this
    have w2e : w2 = u2 := by
      have := e2.symm.trans (show its2.toArray[i]? = some u2 by simpa using hu2)
      exact Option.some.inj this
    subst w1e w2e
    refine ⟨_, rfl, wpAny_letOwnedTupleGo_zip (s := { s with heap := h', toks := tk }) z' fun h'' z'' sb => ?_⟩
    have hT2 : h''.get? s.heap.objs.size = some { cls := .type "tuple", data := .seq #[w1, w2] } := (sb.2 _ (Nat.ne_of_gt zl)).trans hT
    have nw : ObjOk X.prog X.w (upd H s.heap.objs.size (.tup [xs[i]'(by omega), ys[i]'(by omega)])) h'' s.heap.objs.size (.tup [xs[i]'(by omega), ys[i]'(by omega)]) :=
      ⟨by show 2 ≤ sizeLine; decide, [w1, w2], .cons ru (.cons ru2 .nil), ⟨_, hT2, rfl, _, rfl⟩⟩
    have I1 : Inv X pins σ (upd H s.heap.objs.size (.tup [xs[i]'(by omega), ys[i]'(by omega)])) { s with heap := h'', toks := tk } :=
      I.turnedNew (t' := tk) (ch := [z, TI, TO, i1, i2]) (fun c o hb q => by
        simp only [List.mem_cons, List.not_mem_nil, or_false, not_or] at hb
        exact (sb.2 c hb.1).trans (hk c o hb.1 hb.2.2.1 hb.2.2.2.1 hb.2.2.2.2 q)) hf (Nat.le_refl _) nw
    refine ⟨.ref s.heap.objs.size, _, I1, rfl, ⟨_, _, _, rfl, I.hok.fresh (Nat.le_refl _), rfl, fun l hl => by rw [I.tuple_inj hl sx]; exact gx1, fun l hl => by rw [I.list_inj hl sy]; exact gy1⟩, ⟨hin, z'', ?_, ⟨w1, w2, ?_⟩, ?_, ?_⟩, fun c hcm => ?_⟩
    · exact (sb.2 _ Dz.TIz).trans (hk _ _ Dz.TIz Dz.TITO Dz.TIi1 Dz.TIi2 qTI)
    · exact (sb.2 _ Dz.TOz).trans TO'
    · exact s1.1.at fun o q => (sb.2 _ (Ne.symm Dz.zi1)).trans q
    · exact s2.1.at fun o q => (sb.2 _ (Ne.symm Dz.zi2)).trans q
    · have hlt : c < s.heap.objs.size := by
        simp only [List.mem_cons, List.not_mem_nil, or_false] at hcm
        obtain ⟨_, t1, _⟩ := q1
        obtain ⟨_, t2, _⟩ := q2
        rcases hcm with rfl | rfl | rfl | rfl | rfl
        · exact zl
        · exact Heap.lt_size qTI
        · exact Heap.lt_size qTO
        · exact Heap.lt_size t1
        · exact Heap.lt_size t2
      rw [upd_ne (Nat.ne_of_lt hlt)]
      exact (hf c hcm).1
  done := by
    intro X hP hw hK hc i pins s σ H E I hf st hg
    subst hP hw hK
    obtain ⟨hle, qz, qTI, ⟨x0, y0, qTO⟩, q1, q2⟩ := st
    rcases hg with hg | ⟨rfl, xs, ys, sx, sy, hn⟩
    · omega
    obtain ⟨its, rv, p, _⟩ := I.tuple sx
    obtain ⟨its2, rv2, p2, _⟩ := I.list sy
    have L1 := rv.length
    have L2' := rv2.length
    have na : a ≠ i1 := fun e => by
      obtain ⟨o1, e1, c1, _⟩ := q1
      obtain ⟨o2, e2, c2, _⟩ := p
      rw [e, e1] at e2
      cases e2
      rw [c1] at c2
      exact absurd (Value.type.inj c2) (by decide)
    have nb : b ≠ i2 := fun e => by
      obtain ⟨o1, e1, c1, _⟩ := q2
      obtain ⟨o2, n2, e2, c2, _⟩ := p2
      rw [e, e1] at e2
      cases e2
      rw [c1] at c2
      exact absurd (Value.type.inj c2) (by decide)
    have hh0 : X.A.in1.handled = none := I.ok.hd hc
    exact wpAny_pyNext_zipD2_end Dz (Draws.tuple hh0 i1 a na its.toArray) (Draws.list hh0 i2 b nb its2.toArray) qz qTI qTO ⟨q1, p⟩ ⟨q2, p2.isList⟩ (by simp; omega) (by simp; omega) (by simp; omega) fun h' tk hk => ⟨rfl, I.turnedL (t' := tk) (ch := [z, TI, TO, i1, i2]) (fun c o hb q => by
      simp only [List.mem_cons, List.not_mem_nil, or_false, not_or] at hb
      exact hk c o hb.1 hb.2.2.1 hb.2.2.2.1 hb.2.2.2.2 q) hf⟩
  self := fun A i s Q E st h => wpAny_pyIter_zip st.2.1 h
def iZipM (K : PySem.W.Frag) (ta : TA) : TI := fun σ H R => ta σ H fun vs H1 => ∃ a b xs ys, vs = [.ref a, .ref b] ∧ SqT K H1 a xs ∧ SqL K H1 b ys ∧ R (ItzM K a b (min xs.length ys.length)) H1
section
variable {X : Cx} {W : WX} {pos : Pos}
theorem pi_zipM {e e2 : Expr} {ta : TA} {p tpos : Pos} {elts : List Expr} {kk : Nat} (hg : Gl X "zip") (hm : X.mg "zip" = none) (ha : PA X [e, e2] ta)
    (hs : starEach [e, e2] X.env = (false, eval e X.env) :: starEach [e2] X.env := by rfl) (hpl : (backTo pos (starEach [e2] X.env)).any (·.1) = false := by rfl) :
    PI X (.Tuple elts kk tpos) (.Call (.Name "zip" p) [e, e2] [] pos) (iZipM X.K ta) := by
  refine ⟨fun pins s σ H R I q0 => ?_⟩
  refine Call_ (ld_blt I hg hm PyProof.Rows.boot_zip (PyProof.Rows.callWith_type1 (thn (ha.run pos pins s σ H _ I q0) fun us s1 ⟨vs, H1, I1, r1, q1⟩ => ?_) hs hpl))
  obtain ⟨a, b, xs, ys, rfl, sx, sy, q⟩ := q1
  obtain ⟨u1, u2, rfl, rr1, rr2⟩ := vals2 r1
  cases rr1
  cases rr2
  obtain ⟨its, rv, p1, _⟩ := I1.tuple sx
  obtain ⟨its2, rv2, p2, _⟩ := I1.list sy
  have la : a < s1.heap.objs.size := by
    obtain ⟨o, e, _⟩ := p1
    exact Heap.lt_size e
  have lb : b < s1.heap.objs.size := p2.lt
  refine PySem.zip_begins2 (PySem.begins_tuple a its.toArray) (PySem.begins_list b its2.toArray) p1 p2.isList fun h' hz hTI hTO h1 h2 hsz hk => wpAny_pyIter_zip hz ?_
  have fresh5 : ∀ c, c ∈ [s1.heap.objs.size + 4, s1.heap.objs.size + 2, s1.heap.objs.size + 3, s1.heap.objs.size, s1.heap.objs.size + 1] → FpOk X pins H1 c := fun c hcm => by
    have hle : s1.heap.objs.size ≤ c := by
      simp only [List.mem_cons, List.not_mem_nil, or_false] at hcm
      rcases hcm with rfl | rfl | rfl | rfl | rfl <;> omega
    exact I1.fpOk hle (I1.hok.fresh hle)
  have I2 : Inv X pins σ H1 { s1 with heap := h' } := I1.kept (t' := s1.toks) hk
  exact ⟨s1.heap.objs.size + 4, [s1.heap.objs.size + 4, s1.heap.objs.size + 2, s1.heap.objs.size + 3, s1.heap.objs.size, s1.heap.objs.size + 1], _, _, H1, rfl, I2,
    turn_zipM (PySem.zip_sep2 (fp1 := [a]) (fp2 := [b]) (by simpa using la) (by simpa using lb)), ⟨Nat.zero_le _, hz, hTI, ⟨_, _, hTO⟩, ⟨_, h1, rfl, rfl⟩, ⟨_, h2, rfl, rfl⟩⟩, fresh5, q⟩
def pairD (p : D × D) : D := .tuple [p.1, p.2]
def zipD : List D → Option (List D)
  | [.tuple xs, .list ys] => some ((xs.zip ys).map pairD)
  | _ => none
def iZ (f : EM (List D)) : EM (List D) := eBind f fun ds => eOpt (zipD ds)
theorem di_zip {e e2 : Expr} {f : EM (List D)} {p tpos : Pos} {elts : List Expr} {kk : Nat} (hg : Gl X "zip") (hm : X.mg "zip" = none) (ha : DA X W [e, e2] f)
    (hs : starEach [e, e2] X.env = (false, eval e X.env) :: starEach [e2] X.env := by rfl) (hpl : (backTo pos (starEach [e2] X.env)).any (·.1) = false := by rfl) :
    DI X W (.Tuple elts kk tpos) (.Call (.Name "zip" p) [e, e2] [] pos) (iZ f) := by
  refine PI.wk (pi_zipM hg hm ha hs hpl) fun σ H R q => ?_
  obtain ⟨S, Z, F, h, q⟩ := q
  refine ⟨S, Z, F, h, (Go.bind q).mono fun ds S1 c1 st1 h1 q1 vs rs => ?_⟩
  obtain ⟨r, e, k⟩ := Go.opt q1
  unfold zipD at e
  split at e
  rotate_left
  · cases e
  rename_i xs ys
  cases e
  obtain ⟨v1, v2, rfl, r1, r2⟩ := rs.two
  obtain ⟨a, us, rfl, sa, ra⟩ := r1.tupI
  cases r2 with
  | lst eb rb =>
    rename_i b ws
    have la := ra.length
    have lb := rb.length
    refine ⟨a, b, us, ws, rfl, sameT h1.zh sa, SqL.of (h1.zh _ _ eb), k c1 (Stp.refl _) h1 _ ⟨fun i c S' σ' hi sm hS => ?_, fun i c S' σ' hi sm hS => ?_⟩⟩
    · rw [List.length_map, List.length_zip] at hi
      have ta : SqT X.K c.H a us := sameT hS.zh (sameT sm sa)
      have tb : SqL X.K c.H b ws := SqL.of (hS.zh _ _ (sm _ _ eb))
      refine ⟨⟨by omega, us, ws, ta, tb, Nat.min_le_left _ _, Nat.min_le_right _ _⟩, fun x H' y => ?_⟩
      obtain ⟨T, x', y', rfl, hT, rfl, f1, f2⟩ := y
      obtain ⟨w1, g1, t1⟩ := ra.get (List.getElem?_eq_getElem (show i < xs.length by omega))
      obtain ⟨w2, g2, t2⟩ := rb.get (List.getElem?_eq_getElem (show i < ys.length by omega))
      have k1 := Option.some.inj ((f1 us ta).symm.trans g1)
      have k2 := Option.some.inj ((f2 ws tb).symm.trans g2)
      subst k1 k2
      obtain ⟨s3, h3⟩ := hS.lay (p := T) (o := .tup [x', y']) hT
      refine ⟨c.lay T (.tup [x', y']), pairD (xs[i]'(by omega), ys[i]'(by omega)), rfl, ?_, s3, h3, .tup upd_same (.cons ((t1.mono sm).mono s3.z) (.cons ((t2.mono sm).mono s3.z) .nil))⟩
      rw [List.getElem?_map, List.getElem?_eq_getElem (by rw [List.length_zip]; omega), List.getElem_zip]
      rfl
    · rw [List.length_map, List.length_zip] at hi
      have ta : SqT X.K c.H a us := sameT hS.zh (sameT sm sa)
      have tb : SqL X.K c.H b ws := SqL.of (hS.zh _ _ (sm _ _ eb))
      rcases Nat.lt_or_ge (min us.length ws.length) i with z | z
      · exact .inl z
      · exact .inr ⟨by omega, us, ws, ta, tb, rfl⟩
def sBad : SM := fun _ => .bad
theorem ds_bad {st : Stmt} : DS X W st sBad := ⟨fun pins s σ H Q I q => by
  obtain ⟨S, Z, F, h, q⟩ := q
  exact q.elim⟩
theorem df_BO {id : String} {g : List D → Option (List D)} (i : Nat) {x y : Str} {p p2 : Pos} (hc : CallF X W (.builtin id) g) (hg : Gl X x) (hm : X.mg x = none) (hv : bootBuiltins x = some (.builtin id)) (hN : X.N[i]? = some y := by rfl) (hvi : Vis X.env.scope y := by first | exact Or.inl rfl | exact Or.inr (Or.inl rfl) | exact Or.inr (Or.inr rfl)) (hdy : (y == ("__debug__" : Str)) = false := by decide)
    (hcd : (y == ("__classdict__" : Str)) = false := by decide) (hn : x ≠ "__name__" := by decide) (hd : (x == ("__debug__" : Str)) = false := by decide)
    (hs : starEach [.Name y p2] X.env = (false, eval (.Name y p2) X.env) :: starEach [] X.env := by rfl) (hpl : (backTo pos (starEach [] X.env)).any (·.1) = false := by rfl) : DF X W (.Call (.Name x p) [.Name y p2] [] pos) (eBFO g i) := by
  obtain ⟨r, hc, hr⟩ := hc
  exact PE.wk (pe_callB hc hg hm hv (pa_cons (pe_var hN hvi hdy hcd) pa_nil hs) (hn := hn) (hdb := hd) (he := hs) (hpl := hpl)) (cfO_rd hr)
theorem df_TyO {T : String} {g : List D → Option (List D)} (i : Nat) {x y : Str} {p p2 : Pos} (hc : CallF X W (.type T) g) (hg : Gl X x) (hm : X.mg x = none) (hv : bootBuiltins x = some (.type T)) (hN : X.N[i]? = some y := by rfl) (hvi : Vis X.env.scope y := by first | exact Or.inl rfl | exact Or.inr (Or.inl rfl) | exact Or.inr (Or.inr rfl)) (hdy : (y == ("__debug__" : Str)) = false := by decide)
    (hcd : (y == ("__classdict__" : Str)) = false := by decide) (hn : x ≠ "__name__" := by decide) (hd : (x == ("__debug__" : Str)) = false := by decide)
    (hs : starEach [.Name y p2] X.env = (false, eval (.Name y p2) X.env) :: starEach [] X.env := by rfl) (hpl : (backTo pos (starEach [] X.env)).any (·.1) = false := by rfl) : DF X W (.Call (.Name x p) [.Name y p2] [] pos) (eBFO g i) := by
  obtain ⟨r, hc, hr⟩ := hc
  exact PE.wk (pe_callTy hc hg hm hv (pa_cons (pe_var hN hvi hdy hcd) pa_nil hs) (hn := hn) (hdb := hd) (he := hs) (hpl := hpl)) (cfO_rd hr)
end
end FW

/-! FwZc: more plain rules: sources that freeze, two fors, lists of rows. -/
namespace FW
open PySem PySem.Spec L2
open PyProof.Rows hiding St
section
variable {α β : Type} {S : List Slot} {PL : List D → List Slot → Prop} {Q : Out → Prop}
/-- [e for v in xs if t], the source leaves S1 -/
theorem E_selS (enc : α → D) {v : Nat} {src : EM (List D)} {t : EM Bool} {e : EM D} (S1 : List Slot) (xs : List α) (p : α → Bool) (f : α → D) (h0 : Ep src S fun ds' S' => ds' = xs.map enc ∧ S' = S1) (hv : v < S1.length) (pl : plainAt [v] S1 = true) (hs : xs.length ≤ 1000000)
    (ht : ∀ x ∈ xs, Ep t (S1.set v (.dat (enc x))) fun b S3 => b = p x ∧ S3 = S1.set v (.dat (enc x))) (he : ∀ x ∈ xs, p x = true → Ep e (S1.set v (.dat (enc x))) fun y S3 => y = f x ∧ S3 = S1.set v (.dat (enc x))) (q : PL ((xs.filter p).map f) S1) : Ep (eComp [v] src (gN v) t e) S PL := by
  obtain ⟨ds, S2, e1, rfl, rfl⟩ := h0
  have hid : Ep (eRet (xs.map enc)) S2 fun ds' S' => ds' = xs.map enc ∧ S' = S2 := ⟨_, _, rfl, rfl, rfl⟩
  obtain ⟨ys, S3, e2, p2⟩ := E_selG (PL := PL) (src := eRet (xs.map enc)) (t := t) (e := e) (v := v) (S := S2) enc xs p f hid hv pl hs ht he q
  refine ⟨ys, S3, ?_, p2⟩
  unfold eComp at e2 ⊢
  unfold eBind at e2 ⊢
  rw [e1]
  exact e2
theorem E_mapS (enc : α → D) {v : Nat} {src : EM (List D)} {e : EM D} (S1 : List Slot) (xs : List α) (f : α → D) (h0 : Ep src S fun ds' S' => ds' = xs.map enc ∧ S' = S1) (hv : v < S1.length) (pl : plainAt [v] S1 = true) (hs : xs.length ≤ 1000000)
    (he : ∀ x ∈ xs, Ep e (S1.set v (.dat (enc x))) fun y S3 => y = f x ∧ S3 = S1.set v (.dat (enc x))) (q : PL (xs.map f) S1) : Ep (eComp [v] src (gN v) bYes e) S PL := by
  refine E_selS enc S1 xs (fun _ => true) f h0 hv pl hs (fun d _ => ?_) (fun d hd _ => he d hd) ?_
  · rw [Ep_yes]
    exact ⟨rfl, rfl⟩
  · rw [List.filter_eq_self.mpr fun _ _ => rfl]
    exact q
/-- [e for v in xs for u in ys] -/
theorem comp2_map (enc : α → D) (enc1 : β → D) {v u : Nat} {src1 : EM (List D)} {t1 : EM Bool} {e : EM D} (hvu : u ≠ v) (ys : α → List β) (p : α → β → Bool) (f : α → β → D) (hv : v < S.length) (hu : u < S.length) (hd : S[u]? = some .un) (hd2 : S[v]? = some .un) : ∀ (xs : List α),
    (∀ x ∈ xs, Ep src1 (S.set v (.dat (enc x))) (fun ds' S' => ds' = (ys x).map enc1 ∧ S' = S.set v (.dat (enc x))) ∧ ∀ y ∈ ys x, Ep t1 ((S.set v (.dat (enc x))).set u (.dat (enc1 y))) (fun b S3 => b = p x y ∧ S3 = (S.set v (.dat (enc x))).set u (.dat (enc1 y))) ∧
      (p x y = true → Ep e ((S.set v (.dat (enc x))).set u (.dat (enc1 y))) fun z S3 => z = f x y ∧ S3 = (S.set v (.dat (enc x))).set u (.dat (enc1 y)))) →
    compL2 [v, u] [u] (gN v) bYes src1 (gN u) t1 e (xs.map enc) S = .ok (xs.flatMap fun x => ((ys x).filter (p x)).map (f x)) S
  | [], _ => rfl
  | x :: xs, h => by
    obtain ⟨h1, h2⟩ := h x List.mem_cons_self
    have ih := comp2_map enc enc1 (src1 := src1) (t1 := t1) (e := e) hvu ys p f hv hu hd hd2 xs fun y hy => h y (List.mem_cons_of_mem _ hy)
    rw [List.map_cons]
    unfold compL2
    have g1 : gN v (enc x) S = some (S.set v (.dat (enc x))) := by
      unfold gN
      rw [if_pos hv]
    have eb : ∀ S, bYes S = .ok true S := fun _ => rfl
    have w1 : wipeS [u] (S.set v (.dat (enc x))) = S.set v (.dat (enc x)) := by
      show (S.set v (.dat (enc x))).set u .un = _
      apply List.ext_getElem?
      intro j
      rw [List.getElem?_set]
      by_cases e : u = j
      · subst e
        rw [if_pos rfl, if_pos (by rw [List.length_set]; exact hu), List.getElem?_set_ne (Ne.symm hvu), hd]
      · rw [if_neg e]
    obtain ⟨ds', S', e1, rfl, rfl⟩ := h1
    have e2 := comp_mapG (own := [u]) (g := gN u) (t := t1) (e := e) enc1 (S.set v (.dat (enc x))) (p x) (f x) (ys x) fun y hy => ⟨(S.set v (.dat (enc x))).set u (.dat (enc1 y)), by unfold gN; rw [if_pos (by rw [List.length_set]; exact hu)], by
      show ((S.set v (.dat (enc x))).set u (.dat (enc1 y))).set u .un = _
      rw [List.set_set]
      exact w1, (h2 y hy).1.mono fun b S3 q => ⟨q.1, q.2, fun hb => (h2 y hy).2 (q.1 ▸ hb)⟩⟩
    have w2 : wipeS [v, u] (S.set v (.dat (enc x))) = S := by
      show (wipeS [u] (S.set v (.dat (enc x)))).set v .un = S
      rw [w1, List.set_set]
      apply List.ext_getElem?
      intro j
      rw [List.getElem?_set]
      by_cases e : v = j
      · subst e
        rw [if_pos rfl, if_pos hv, hd2]
      · rw [if_neg e]
    simp only [g1, eb, e1, w1, e2, w2, ih, List.flatMap_cons]
theorem E_map2 (enc : α → D) (enc1 : β → D) {v u : Nat} {src src1 : EM (List D)} {t1 : EM Bool} {e : EM D} (xs : List α) (ys : α → List β) (p : α → β → Bool) (f : α → β → D) (h0 : Ep src S fun ds' S1 => ds' = xs.map enc ∧ S1 = S) (hvu : u ≠ v) (hv : v < S.length) (hu : u < S.length) (pl : plainAt [v, u] S = true) (hs : (xs.flatMap fun x => ((ys x).filter (p x)).map (f x)).length ≤ 1000000)
    (h : ∀ x ∈ xs, Ep src1 (((S.set u .un).set v .un).set v (.dat (enc x))) (fun ds' S' => ds' = (ys x).map enc1 ∧ S' = ((S.set u .un).set v .un).set v (.dat (enc x))) ∧ ∀ y ∈ ys x, Ep t1 ((((S.set u .un).set v .un).set v (.dat (enc x))).set u (.dat (enc1 y))) (fun b S3 => b = p x y ∧ S3 = (((S.set u .un).set v .un).set v (.dat (enc x))).set u (.dat (enc1 y))) ∧
      (p x y = true → Ep e ((((S.set u .un).set v .un).set v (.dat (enc x))).set u (.dat (enc1 y))) fun z S3 => z = f x y ∧ S3 = (((S.set u .un).set v .un).set v (.dat (enc x))).set u (.dat (enc1 y))))
    (q : PL (xs.flatMap fun x => ((ys x).filter (p x)).map (f x)) S) : Ep (eComp2 [v, u] [u] src (gN v) bYes src1 (gN u) t1 e) S PL := by
  obtain ⟨ds, S1, e1, rfl, rfl⟩ := h0
  have hc := comp2_map (S := (S1.set u .un).set v .un) enc enc1 (src1 := src1) (t1 := t1) (e := e) hvu ys p f (by simpa using hv) (by simpa using hu)
    (by rw [List.getElem?_set_ne (Ne.symm hvu), List.getElem?_set_self (by exact hu)]) (by rw [List.getElem?_set_self (by simpa using hv)]) xs h
  refine ⟨_, S1, ?_, q⟩
  unfold eComp2 eBind
  rw [e1]
  have hsm : small (xs.flatMap fun x => ((ys x).filter (p x)).map (f x)).length = true := small_of hs
  have hw : wipeS [v, u] S1 = (S1.set u .un).set v .un := rfl
  simp only [pl, if_true, hw, hc, hsm]
  congr 1
  have hr : restS [v, u] S1 ((S1.set u .un).set v .un) = (restS [u] S1 ((S1.set u .un).set v .un)).set v (S1[v]) := by
    show (match S1[v]? with | some s => (restS [u] S1 ((S1.set u .un).set v .un)).set v s | none => _) = _
    rw [List.getElem?_eq_getElem hv]
  have hr2 : restS [u] S1 ((S1.set u .un).set v .un) = ((S1.set u .un).set v .un).set u (S1[u]) := by
    show (match S1[u]? with | some s => (restS [] S1 ((S1.set u .un).set v .un)).set u s | none => _) = _
    rw [List.getElem?_eq_getElem hu]
    rfl
  rw [hr, hr2]
  apply List.ext_getElem?
  intro j
  by_cases ev : v = j
  · subst ev
    rw [List.getElem?_set_self (by simpa using hv), List.getElem?_eq_getElem hv]
  · rw [List.getElem?_set_ne ev]
    by_cases eu : u = j
    · subst eu
      rw [List.getElem?_set_self (by simpa using hu), List.getElem?_eq_getElem hu]
    · rw [List.getElem?_set_ne eu, List.getElem?_set_ne ev, List.getElem?_set_ne eu]
end
/-! lists of anything typed -/
theorem ixT_g {α : Type} (enc : α → D) {xs : List α} {k : Nat} {x : α} (h : xs[k]? = some x) : ixD (.tuple (xs.map enc)) (.int (k : Nat)) = some (enc x) := ixD_t (by rw [List.getElem?_map, h]; rfl)
theorem ixL_g {α : Type} (enc : α → D) {xs : List α} {k : Nat} {x : α} (h : xs[k]? = some x) : ixD (.list (xs.map enc)) (.int (k : Nat)) = some (enc x) := ixD_l (by rw [List.getElem?_map, h]; rfl)
theorem eraseIdx_map' {α β : Type} (f : α → β) : ∀ (xs : List α) (k : Nat), (xs.map f).eraseIdx k = (xs.eraseIdx k).map f
  | [], _ => rfl
  | _ :: _, 0 => rfl
  | x :: xs, k + 1 => congrArg (f x :: ·) (eraseIdx_map' f xs k)
theorem pop_g {α : Type} (enc : α → D) {xs : List α} {k : Nat} {x : α} (h : xs[k]? = some x) (hs : xs.length < 2 ^ 62) : popAtD (xs.map enc) [.int (k : Nat)] = some (enc x, (xs.eraseIdx k).map enc) := by
  have hk := (List.getElem?_eq_some_iff.mp h).1
  have e : popAtD (xs.map enc) [.int (k : Nat)] = (if -(2 ^ 63) ≤ ((k : Nat) : Int) ∧ ((k : Nat) : Int) < 2 ^ 63 then (seqIndex? (k : Nat) (xs.map enc).length).bind fun j => ((xs.map enc)[j]?).map fun d => (d, (xs.map enc).eraseIdx j) else none) := rfl
  have e2 : seqIndex? ((k : Nat) : Int) (xs.map enc).length = some k := by
    unfold seqIndex?
    simp
    omega
  rw [e, if_pos ⟨by omega, by omega⟩, e2]
  simp only [Option.bind_some, List.getElem?_map, h, Option.map_some]
  rw [eraseIdx_map']
theorem addL {xs ys : List D} (h : xs.length + ys.length ≤ 1000000) : addD (.list xs) (.list ys) = some (.list (xs ++ ys)) := by
  have : (1000000 : Nat) ≤ sizeLine := by decide
  have e : addD (.list xs) (.list ys) = (if xs.length + ys.length ≤ sizeLine then some (.list (xs ++ ys)) else none) := rfl
  rw [e, if_pos (by omega)]
theorem addTu {xs ys : List D} (h : xs.length + ys.length ≤ 1000000) : addD (.tuple xs) (.tuple ys) = some (.tuple (xs ++ ys)) := by
  have : (1000000 : Nat) ≤ sizeLine := by decide
  have e : addD (.tuple xs) (.tuple ys) = (if xs.length + ys.length ≤ sizeLine then some (.tuple (xs ++ ys)) else none) := rfl
  rw [e, if_pos (by omega)]
theorem shal0 (n : Nat) (d : D) (h : shal 0 d = true) : shal n d = true := shal_le (Nat.zero_le n) h
theorem in_nats (k : Nat) (P : List Nat) : inD (.int k) (.list (P.map nI)) = some (.bool (P.contains k)) ∧ ninD (.int k) (.list (P.map nI)) = some (.bool (!P.contains k)) := by
  have hok : inOk (P.map nI) (.int k) = true := by
    unfold inOk
    have : noDictA (P.map nI) = true := nd_en P
    rw [this]
    rfl
  have ha : ((P.map nI).any fun z => PyData.eqv z (.int k)) = P.contains k := by
    rw [List.any_map, List.contains_eq_any_beq]
    congr 1
    funext z
    have := En.eqv (α := Nat) z k
    show PyData.eqv (nI z) (nI k) = _
    refine this.trans ?_
    rw [Bool.eq_iff_iff]
    simp
    exact eq_comm
  constructor
  · show (if inOk (P.map nI) (.int k) then some (PyData.bool ((P.map nI).any fun z => PyData.eqv z (.int k))) else none) = _
    rw [if_pos hok, ha]
  · show (if inOk (P.map nI) (.int k) then some (PyData.bool (!(P.map nI).any fun z => PyData.eqv z (.int k))) else none) = _
    rw [if_pos hok, ha]
theorem rep_tup {d : D} {m : Nat} (h : m ≤ 1000) : mulD (.tuple [d]) (.int m) = some (.tuple (List.replicate m d)) := by
  have e : mulD (.tuple [d]) (.int m) = (if -1000 ≤ (m : Int) ∧ (m : Int) ≤ 1000 ∧ [d].length ≤ 1000 then some (.tuple (List.replicate (m : Int).toNat [d]).flatten) else none) := rfl
  rw [e, if_pos ⟨by omega, by omega, by simp⟩, Int.toNat_natCast]
  congr 2
  induction m with
  | zero => rfl
  | succ m ih => rw [List.replicate_succ, List.flatten_cons, ih (by omega) rfl, List.replicate_succ]; rfl
theorem rep_lst {d : D} {m : Nat} (h : m ≤ 1000) : mulD (.list [d]) (.int m) = some (.list (List.replicate m d)) ∧ repF (.list [d]) (.int m) = some (List.replicate m d) := by
  have hs : (1000 : Nat) < sizeLine := by decide
  have f : (List.replicate m [d]).flatten = List.replicate m d := by
    clear h
    induction m with
    | zero => rfl
    | succ m ih => rw [List.replicate_succ, List.flatten_cons, ih, List.replicate_succ]; rfl
  constructor
  · have e : mulD (.list [d]) (.int m) = (if -(2 ^ 63) ≤ (m : Int) ∧ (m : Int) < 2 ^ 63 ∧ [d].length * (m : Int).toNat ≤ sizeLine then some (.list (List.replicate (m : Int).toNat [d]).flatten) else none) := rfl
    rw [e, if_pos ⟨by omega, by omega, by simp; omega⟩, Int.toNat_natCast, f]
  · have e : repF (.list [d]) (.int m) = (if -(2 ^ 63) ≤ (m : Int) ∧ (m : Int) < 2 ^ 63 ∧ [d].length * (m : Int).toNat ≤ sizeLine then some (List.replicate (m : Int).toNat [d]).flatten else none) := rfl
    rw [e, if_pos ⟨by omega, by omega, by simp; omega⟩, Int.toNat_natCast, f]
end FW

/-! FwL2: three names set at once, each to data or to a list of its own. -/
namespace FW
open PySem PySem.Spec L2
open PyProof.Rows hiding St
theorem TK.aft {K : PySem.W.Frag} {Z H : Hp} {F F' : List Addr} {w : V} {s2 : Slot} {o1 o2 : Option Addr} (t2 : TK K ⟨Z, H, F⟩ w s2 o2) (f1 : ∀ b ∈ F', b ∈ F ∨ o1 = some b) (dj : ∀ p, o1 = some p → o2 = some p → False) : TK K ⟨Z, H, F'⟩ w s2 o2 := by
  cases o2 with
  | none => exact SlotOk.tr t2 (Same.refl _) fun _ _ => rfl
  | some p =>
    obtain ⟨u, e, g1, g2, g3, g4, g5⟩ := t2
    refine ⟨u, e, fun m => ?_, g2, g3, g4, g5.tr (Same.refl _) fun _ _ => rfl⟩
    rcases f1 p m with m | m
    · exact g1 m
    · exact dj p m rfl
section
variable {X : Cx} {W : WX} {pos : Pos}
theorem par_core3 {i j l : Nat} {S2 : List Slot} {σ : Sg} {c1 c5 : Cfg} {v w z : V} {s1 s2 s3 : Slot} {o1 o2 o3 : Option Addr} {Q : Ends} (ST : Stp c1 c5) (h5 : Holds X.K S2 σ c5) (t1 : TK X.K c5 v s1 o1) (t2 : TK X.K c5 w s2 o2) (t3 : TK X.K c5 z s3 o3)
    (d12 : ∀ p, o1 = some p → o2 = some p → False) (d13 : ∀ p, o1 = some p → o3 = some p → False) (d23 : ∀ p, o2 = some p → o3 = some p → False) (w1 : ∀ p, o1 = some p → c1.H p = none) (w2 : ∀ p, o2 = some p → c1.H p = none) (w3 : ∀ p, o3 = some p → c1.H p = none)
    (q2 : GoS (gx X W) c1 Q (if i < S2.length ∧ j < S2.length ∧ l < S2.length then .nx (((S2.set i s1).set j s2).set l s3) else .bad)) :
    Q.nx (((σ.set i (some v)).set j (some w)).set l (some z)) c5.H := by
  split at q2
  rotate_left
  · exact q2.elim
  rename_i hl
  obtain ⟨F1, f1', h6⟩ := t1.put h5 hl.1
  have t2' : TK X.K ⟨c5.Z, c5.H, F1⟩ w s2 o2 := t2.aft f1' d12
  have t3' : TK X.K ⟨c5.Z, c5.H, F1⟩ z s3 o3 := t3.aft f1' d13
  obtain ⟨F2, f2', h7⟩ := t2'.put h6 (by rw [List.length_set]; exact hl.2.1)
  have t3'' : TK X.K ⟨c5.Z, c5.H, F2⟩ z s3 o3 := t3'.aft f2' d23
  obtain ⟨F3, f3', h8⟩ := t3''.put h7 (by rw [List.length_set, List.length_set]; exact hl.2.2)
  refine q2 _ ⟨c5.Z, c5.H, F3⟩ ⟨ST.z, ST.k, ST.t, ST.n, fun b m => ?_⟩ h8
  rcases f3' b m with m | m
  · rcases f2' b m with m | m
    · rcases f1' b m with m | m
      · exact ST.f b m
      · exact .inr (w1 b m)
    · exact .inr (w2 b m)
  · exact .inr (w3 b m)
def sParK3 (i j l : Nat) (f1 f2 f3 : EM Slot) : SM := sOf f1 fun s1 S1 => sOf f2 (fun s2 S2 => sOf f3 (fun s3 S3 => if i < S3.length ∧ j < S3.length ∧ l < S3.length then .nx (((S3.set i s1).set j s2).set l s3) else .bad) S2) S1
theorem ds_parK3 (i j l : Nat) {x y z : Str} {a b c : Expr} {f1 f2 f3 : EM Slot} {px py pz pt : Pos} {kt k2 pt2} (hc : X.calm = true) (hN : X.N.Nodup) (ha : DK X W a f1) (hb : DK X W b f2) (hcc : DK X W c f3) (hij : i ≠ j) (hil : i ≠ l) (hjl : j ≠ l) (hi : X.N[i]? = some x := by rfl) (hj : X.N[j]? = some y := by rfl) (hl : X.N[l]? = some z := by rfl)
    (hx : X.env.scope.names.lookup x = some .local := by rfl) (hy : X.env.scope.names.lookup y = some .local := by rfl) (hz : X.env.scope.names.lookup z = some .local := by rfl)
    (hw : swappedStores [.Tuple [.Name x px, .Name y py, .Name z pz] kt pt] (.Tuple [a, b, c] k2 pt2) X.env = pure (some [x, y, z]) := by rfl)
    (hs : swapsWithSole [.Tuple [.Name x px, .Name y py, .Name z pz] kt pt] (.Tuple [a, b, c] k2 pt2) pos.line X.env = pure false := by rfl)
    (hsa : starEach (a :: [b, c]) X.env = (false, eval a X.env) :: starEach [b, c] X.env := by rfl) (hsb : starEach (b :: [c]) X.env = (false, eval b X.env) :: starEach [c] X.env := by rfl) (hsc : starEach (c :: []) X.env = (false, eval c X.env) :: starEach [] X.env := by rfl) :
    DS X W (.Assign [.Tuple [.Name x px, .Name y py, .Name z pz] kt pt] (.Tuple [a, b, c] k2 pt2) pos) (sParK3 i j l f1 f2 f3) := by
  refine PS.wk (ps_par3 hc hN hi hj hl hij hil hjl hx hy hz (pa_cons ha (pa_cons hb (pa_cons hcc pa_nil hsc) hsb) hsa) hw hs) fun Q σ H q => ?_
  obtain ⟨S, Z, F, h, q⟩ := q
  refine ⟨S, Z, F, h, Go.toS q fun s1 S1 c1 st1 h1 q1 v c2 o1 n1 => ?_⟩
  obtain ⟨st2, h2, t1, w1⟩ := n1.to h1
  refine ⟨S1, c2.Z, c2.F, h2, ?_⟩
  have q2 := q1
  unfold sOf at q2
  cases e2 : f2 S1 with
  | bad => rw [e2] at q2; exact q2.elim
  | ex e S2 =>
    rw [e2] at q2
    exact fun c' cls dx s' o x => q2 σ c' cls dx (st2.trans s') o x
  | ok s2 S2 =>
    rw [e2] at q2
    intro c3 st3 h3 w c4 o2 n2
    obtain ⟨st4, h4, t2, w2⟩ := n2.to h3
    refine ⟨S2, c4.Z, c4.F, h4, ?_⟩
    have q3 := q2
    cases e3 : f3 S2 with
    | bad =>
      simp only [e3] at q3
      exact q3.elim
    | ex e S3 =>
      simp only [e3] at q3
      exact fun c' cls dx s' o x => q3 σ c' cls dx ((st2.trans st3).trans (st4.trans s')) o x
    | ok s3 S3 =>
      simp only [e3] at q3
      intro c5 st5 h5 z' c6 o3 n3
      obtain ⟨st6, h6, t3, w3⟩ := n3.to h5
      have t13 := t1.step st3
      have t14 := t13.step st4
      have t15 := t14.step st5
      have t25 := t2.step st5
      exact ⟨v, w, z', rfl, par_core3 (((st2.trans st3).trans (st4.trans st5)).trans st6) h6 (t15.step st6) (t25.step st6) t3 (par_dj (c' := c3) (c'' := c3) (w := w) (s2 := s2) t13 w2) (par_dj (c' := c5) (c'' := c5) (w := z') (s2 := s3) t15 w3) (par_dj (c' := c5) (c'' := c5) (w := z') (s2 := s3) t25 w3)
        w1 (fun p e => (st2.trans st3).was (w2 p e)) (fun p e => ((st2.trans st3).trans (st4.trans st5)).was (w3 p e)) q3⟩
end
section
variable {S : List Slot} {Q : Out → Prop}
theorem Y_parK3 {i j l : Nat} {f1 f2 f3 : EM Slot} : WpK (sParK3 i j l f1 f2 f3) S Q = EpK f1 S fun s1 S1 => EpK f2 S1 fun s2 S2 => EpK f3 S2 fun s3 S3 => AndK (i < S3.length) (AndK (j < S3.length) (AndK (l < S3.length) (Q (.nx (((S3.set i s1).set j s2).set l s3))))) := by
  simp only [← Ep_K, ← Wp_K]
  unfold sParK3
  rw [Wp_of]
  congr 1
  funext s1 S1
  have h := Wp_of (m := f2) (k := fun s2 S2 => sOf f3 (fun s3 S3 => if i < S3.length ∧ j < S3.length ∧ l < S3.length then .nx (((S3.set i s1).set j s2).set l s3) else .bad) S2) (S := S1) (Q := Q)
  unfold Wp at h
  refine Eq.trans (show _ = _ from rfl) (h.trans ?_)
  congr 1
  funext s2 S2
  have h := Wp_of (m := f3) (k := fun s3 S3 => if i < S3.length ∧ j < S3.length ∧ l < S3.length then .nx (((S3.set i s1).set j s2).set l s3) else .bad) (S := S2) (Q := Q)
  unfold Wp at h
  refine Eq.trans (show _ = _ from rfl) (h.trans ?_)
  congr 1
  funext s3 S3
  unfold AndK
  by_cases h1 : i < S3.length
  · by_cases h2 : j < S3.length
    · by_cases h3 : l < S3.length
      · simp [h1, h2, h3, okO]
      · simp [h1, h2, h3, okO]
    · simp [h1, h2, okO]
  · simp [h1, okO]
end
end FW

/-! FwT1: t[::-1] of a tuple, max and min of a tuple of ints. -/
namespace FW
open PySem PySem.Spec L2
open PyProof.Rows hiding St
section
variable {prog : Program} {w : World} {A : Around} {E : Value → Shared → Prop} {s : Shared}
theorem adjust_rev (n : Nat) : Builtin.Slice.sliceAdjust none none (-1) (n : Int) = ((n : Int) - 1, -1) := by
  unfold Builtin.Slice.sliceAdjust
  rfl
theorem places_rev (n : Nat) : Builtin.Slice.slicePlaces ((n : Int) - 1) (-1) (-1) = n := by
  unfold Builtin.Slice.slicePlaces
  have h1 : ¬ ((-1 : Int) > 0) := by decide
  simp only [h1, if_false, show (- -1 : Int) = 1 by decide, Int.ediv_one]
  split <;> omega
theorem fm_congr {α β : Type} {f g : α → Option β} : ∀ {l : List α}, (∀ x ∈ l, f x = g x) → l.filterMap f = l.filterMap g
  | [], _ => rfl
  | x :: l, h => by
    have ih := fm_congr fun y hy => h y (List.mem_cons_of_mem _ hy)
    rw [List.filterMap_cons, List.filterMap_cons, h x List.mem_cons_self, ih]
theorem sliceApplied_rev {sl : Addr} {vs : Value} {n : Nat} {Q : Int × Int × Nat → Shared → Prop} (hs : s.heap.IsSliceOf sl .none .none vs) (ps : IsPart vs (some (-1)))
    (h : Q ((n : Int) - 1, -1, n) s) : wpAny (model prog w) A (Builtin.Slice.sliceApplied (.ref sl) (pure (n : Int))) Q E s := by
  obtain ⟨os, hos, hcs, hds⟩ := id hs
  unfold Builtin.Slice.sliceApplied Builtin.Slice.sliceFields
  refine wpAny_bind (wpAny_bind (wpAny_field hos hds (x := .none) rfl (wpAny_bind (wpAny_field hos hds (x := .none) rfl (wpAny_bind (wpAny_field hos hds (x := vs) rfl (wpAny_pure ?_)))))))
  refine wpAny_bind (HT.slicePart_ ps ?_)
  show wpAny _ _ (if ((-1 : Int) == 0) = true then _ else _) _ _ s
  rw [if_neg (by decide)]
  refine wpAny_bind (HT.slicePart_ .none (wpAny_bind (HT.slicePart_ .none (wpAny_bind (wpAny_pure ?_)))))
  show wpAny _ _ (match Builtin.Slice.sliceAdjust none none (-1) (n : Int) with | (lo, hi) => pure (lo, (-1 : Int), Builtin.Slice.slicePlaces lo hi (-1))) _ _ s
  rw [adjust_rev n]
  show wpAny _ _ (pure ((n : Int) - 1, (-1 : Int), Builtin.Slice.slicePlaces ((n : Int) - 1) (-1) (-1))) _ _ s
  rw [places_rev]
  exact wpAny_pure h
theorem pick_rev (xs : Array Value) : ((List.range xs.size).filterMap fun (m : Nat) => xs[((xs.size : Int) - 1 + (m : Int) * -1).toNat]?).toArray = xs.toList.reverse.toArray := by
  have e : (List.range xs.size).filterMap (fun (m : Nat) => xs[((xs.size : Int) - 1 + (m : Int) * -1).toNat]?) = (List.range xs.size).filterMap (fun m => xs.toList.reverse[m]?) := by
    refine fm_congr fun m hm => ?_
    have hm := List.mem_range.mp hm
    have e1 : ((xs.size : Int) - 1 + (m : Int) * -1).toNat = xs.size - 1 - m := by omega
    rw [e1, List.getElem?_reverse (by simpa using hm)]
    simp
  rw [e]
  have e2 : (List.range xs.size).filterMap (fun m => xs.toList.reverse[m]?) = xs.toList.reverse := by
    have := pick_run xs.toList.reverse.toArray 0 xs.size
    have e3 : List.take xs.size xs.toList.reverse = xs.toList.reverse := List.take_of_length_le (by simp)
    simpa [e3] using this
  rw [e2]
theorem getItem_tuple_rev {t sl : Addr} {items : Array Value} {vs : Value} {Q : Value → Shared → Prop} (ht : IsTup s.heap t items) (hs : s.heap.IsSliceOf sl .none .none vs) (ps : IsPart vs (some (-1)))
    (h : Q (.ref s.heap.objs.size) { s with heap := s.heap.push { cls := .type "tuple", data := .seq items.toList.reverse.toArray } })
    (hsz : items.size ≤ sizeLine) : wpAny (model prog w) A (getItem (.ref t) (.ref sl)) Q E s := by
  have htake : sizeOk (.seq items.toList.reverse.toArray) := by
    show items.toList.reverse.toArray.size ≤ sizeLine
    rw [List.size_toArray, List.length_reverse, Array.length_toList]
    exact hsz
  obtain ⟨os, hos, hcs, hds⟩ := id hs
  have hTs : s.TypeIs (.ref sl) "slice" := ⟨os, hos, hcs⟩
  unfold getItem
  try with_reducible refine wpAny_holding ?_
  first | refine wpAny_bind (wpAny_pure ?_) | skip
  refine wpAny_bind (wpAny_sequenceKey ht.typeIs (by decide) ?_)
  refine wpAny_bind (wpAny_callSpecial?_slot (name := Str.ofString "__getitem__") ht.typeIs PyProof.Rows.slot_tuple_getitem
    (wpAny_call_entry PyProof.Rows.slot_tuple_getitem ht.typeIs entry_tuple_getitem ?_ (args_tuple_getitem _ _)))
  show wpAny _ _ (Builtin.Tuple.tupleItemsOf (.ref t) >>= _) _ _ s
  refine wpAny_bind (tupleItemsOf_ ht ?_)
  refine wpAny_bind (wpAny_typeOf hTs ?_)
  rw [if_pos (by decide)]
  refine wpAny_bind (sliceApplied_rev hs ps ?_)
  have hno : ¬ ((((items.size : Int) - 1) == 0 && (-1 : Int) == 1 && items.size == items.size) = true) := by
    intro q
    rw [Bool.and_eq_true, Bool.and_eq_true] at q
    have q1 : (-1 : Int) = 1 := eq_of_beq q.1.2
    omega
  show wpAny _ _ (if (((items.size : Int) - 1) == 0 && (-1 : Int) == 1 && items.size == items.size) = true then _ else _) _ _ s
  rw [if_neg hno, pick_rev]
  first
    | exact wpAny_bind (m := Builtin.Tuple.tupleExact _) (wpAny_newObj_type (wpAny_pure ⟨_, rfl, wpAny_pure h⟩) htake)
    | exact wpAny_bind (m := Builtin.Tuple.tupleExact _) (wpAny_newObj_type (wpAny_bind (wpAny_pure (wpAny_pure ⟨_, rfl, wpAny_pure h⟩))) htake)
    | exact wpAny_bind (wpAny_bind (m := Builtin.Tuple.tupleExact _) (wpAny_newObj_type (wpAny_pure (wpAny_pure ⟨_, rfl, wpAny_pure h⟩)) htake))
    | exact wpAny_bind (wpAny_bind (m := Builtin.Tuple.tupleExact _) (wpAny_newObj_type (wpAny_pure ⟨_, rfl, wpAny_pure h⟩) htake))
end
section
variable {X : Cx} {W : WX} {pos : Pos}
def tRevT (K : PySem.W.Frag) (te : TE) : TE := fun σ H Q => te σ H fun x H1 => ∃ a xs, x = .ref a ∧ SqT K H1 a xs ∧ ∀ p, H1 p = none → Q (.ref p) (upd H1 p (.tup xs.reverse))
theorem revX_core {e : Expr} {te : TE} {k : Nat} {p1 p2 p3 pos : Pos} (he : PE X e te) : PE X (.Subscript e (.Slice none none (some (.UnaryOp .USub (.Constant (.int 1) k p1) p2)) p3) pos) (fun σ H Q => te σ H fun x H1 => (∃ a xs, x = .ref a ∧ SqL X.K H1 a xs ∧ ∀ p, H1 p = none → Q (.ref p) (upd H1 p (.lst xs.reverse))) ∨ (∃ a xs, x = .ref a ∧ SqT X.K H1 a xs ∧ ∀ p, H1 p = none → Q (.ref p) (upd H1 p (.tup xs.reverse)))) := by
  refine ⟨fun pins s σ H Q I h => ?_⟩
  refine Subscript_ (thn (he.run pins s σ H _ I h) fun v s1 ⟨x, H1, I1, r1, q1⟩ => ?_)
  have hst : PO X (some (.UnaryOp .USub (.Constant (.int 1) k p1) p2)) (tPart (tUn (rU fun i => .int (-i)) (tC (.int 1)))) := po_some (pe_un un_neg pe_int)
  refine wpAny_Slice (thn (po_none.run pins s1 σ H1 (fun o H2 => o = none ∧ H2 = H1) I1 ⟨rfl, rfl⟩) fun vl s2 ⟨l, H2, I2, pl, el, e2⟩ => ?_)
  subst el e2
  refine thn (po_none.run pins s2 σ H2 (fun o H3 => o = none ∧ H3 = H2) I2 ⟨rfl, rfl⟩) fun vu s3 ⟨u, H3, I3, pu, eu, e3⟩ => ?_
  subst eu e3
  refine thn (hst.run pins s3 σ H3 (fun o H4 => o = some (-1) ∧ H4 = H3) I3 ⟨1, rfl, -1, rfl, rfl, rfl⟩) fun vs s4 ⟨o, H4, I4, ps, eo, e4⟩ => ?_
  subst eo e4
  have I5 : Inv X pins σ H4 { s4 with heap := s4.heap.push { cls := .type "slice", data := .fields #[vl, vu, vs] } } := I4.kept (t' := s4.toks) fun b ob q => Heap.get?_push_of_some _ q
  cases pl
  cases pu
  rcases q1 with ⟨a, xs, ex, hx, q⟩ | ⟨a, xs, ex, hx, q⟩
  · subst ex
    cases r1
    obtain ⟨its, r, ht, hz⟩ := I5.list hx
    have hlen := r.length
    show wpAny (model X.prog X.w) X.A (subscriptTail e (.Slice none none (some (.UnaryOp .USub (.Constant (.int 1) k p1) p2)) p3) (.ref a) (.ref s4.heap.objs.size)) (EP X pins σ Q) X.xe { s4 with heap := s4.heap.push { cls := .type "slice", data := .fields #[.none, .none, vs] } }
    refine tail_any (ops := [.ref a, .ref s4.heap.objs.size]) ht.isList.typeIs (PySem.slot_list_getitem.lookup) ?_ (by with_unfolding_all rfl)
    refine wpAny_getItem_list_slice ht.isList (Heap.IsSliceOf.new _ .none .none vs) .none .none ps (by decide) ?_ (by rw [List.size_toArray]; omega)
    rw [PySem.W.krv_pick]
    refine ⟨.ref _, _, I5.laid (t' := s4.toks) (o := .lst xs.reverse) (fun b ob q => Heap.get?_push_of_some _ q) (Nat.le_refl _) ?_, rfl, q _ (I5.hok.fresh (Nat.le_refl _))⟩
    exact ⟨by rw [List.length_reverse]; exact hz, _, 0, r.reverse, Heap.get?_push_size _ rfl⟩
  · subst ex
    cases r1
    obtain ⟨its, r, ht, hz⟩ := I5.tuple hx
    have hlen := r.length
    show wpAny (model X.prog X.w) X.A (subscriptTail e (.Slice none none (some (.UnaryOp .USub (.Constant (.int 1) k p1) p2)) p3) (.ref a) (.ref s4.heap.objs.size)) (EP X pins σ Q) X.xe { s4 with heap := s4.heap.push { cls := .type "slice", data := .fields #[.none, .none, vs] } }
    refine tail_any (ops := [.ref a, .ref s4.heap.objs.size]) ht.typeIs (PyProof.Rows.slot_tuple_getitem.lookup) ?_ (by with_unfolding_all rfl)
    refine getItem_tuple_rev ht (Heap.IsSliceOf.new _ .none .none vs) ps ?_ (by rw [List.size_toArray]; omega)
    refine ⟨.ref _, _, I5.laid (t' := s4.toks) (o := .tup xs.reverse) (fun b ob q => Heap.get?_push_of_some _ q) (Nat.le_refl _) ?_, rfl, q _ (I5.hok.fresh (Nat.le_refl _))⟩
    exact ⟨by rw [List.length_reverse]; exact hz, _, r.reverse, IsTup.new _ _⟩
def revX : D → Option D
  | .list ds => some (.list ds.reverse)
  | .tuple ds => some (.tuple ds.reverse)
  | _ => none
theorem de_revX {e : Expr} {f : EM D} {k : Nat} {p1 p2 p3 : Pos} (he : DL X W e f) : DE X W (.Subscript e (.Slice none none (some (.UnaryOp .USub (.Constant (.int 1) k p1) p2)) p3) pos) (eUn revX f) := by
  refine PE.wk (revX_core he) fun σ H Q q => ?_
  obtain ⟨S, Z, F, h, q⟩ := q
  refine ⟨S, Z, F, h, (Go.bind q).mono fun d S1 c1 s1 h1 q1 x rx => ?_⟩
  obtain ⟨dd, e, k⟩ := Go.opt q1
  unfold revX at e
  split at e
  · cases e
    obtain ⟨p, xs, rfl, a1, r1⟩ := rx.lstI h1.zh
    refine .inl ⟨p, xs, rfl, SqL.of a1, fun pn hp => ?_⟩
    obtain ⟨st, hh, r⟩ := h1.layL hp r1.rev
    exact k _ st hh _ r
  · cases e
    obtain ⟨p, xs, rfl, a1, r1⟩ := rx.tupI
    refine .inr ⟨p, xs, rfl, sameT h1.zh a1, fun pn hp => ?_⟩
    obtain ⟨st, hh, r⟩ := h1.layT hp r1.rev
    exact k _ st hh _ r
  · cases e
theorem reads_ints {h : Heap} : ∀ {ns : List Int} {us : List Value}, Vals (ns.map V.int) us → PySem.W.HoldAll h us ns
  | [], us, r => by
    cases r
    exact PySem.W.HoldAll.nil
  | n :: ns, us, r => by
    cases r with
    | cons r1 r2 =>
      obtain ⟨t, rfl⟩ := r1
      exact PySem.W.HoldAll.cons ⟨_, .int n t⟩ (reads_ints r2)
theorem holds_int {h : Heap} {v : Value} {i : Int} (H : PySem.W.Holds h v i) : ∃ t, v = .int i t := by
  obtain ⟨as, r⟩ := H
  cases r
  exact ⟨_, rfl⟩
theorem cr_maxT (hc : X.calm = true) (hu : X.A.units + 64 < cLine) : CallR X (.builtin "max") (fun vs H Q => ∃ (a : Addr) (n : Int) (ns : List Int), vs = [V.ref a] ∧ SqT X.K H a ((n :: ns).map V.int) ∧ Q (.int (ns.foldl (fun a b => if a < b then b else a) n)) H) := by
  intro pins s σ H vs us Q I r h
  obtain ⟨a, n, ns, rfl, hs, q⟩ := h
  obtain ⟨its, rv, hl, _⟩ := I.tuple hs
  rw [Vals.ref1 r]
  have ho : PySem.W.HoldAll s.heap its.toArray.toList (n :: ns) := reads_ints rv
  refine PySem.W.max_tuple_datum (I.ok.hd hc) hl ho (by show X.A.units + 1 + 0 < cLine; omega) fun i v h' tk hv hh hk => ?_
  obtain ⟨t, rfl⟩ := holds_int hh
  have e : PySem.W.maxOf n ns = ns.foldl (fun a b => if a < b then b else a) n := by
    unfold PySem.W.maxOf
    congr 1
    funext a b
    show (if decide (a < b) = true then b else a) = _
    simp only [decide_eq_true_eq]
  rw [e] at hh ⊢
  exact ⟨.int _, H, I.kept hk, ⟨t, rfl⟩, q⟩
def maxT : List D → Option D
  | [.tuple ds] => ((allI ds).bind maxI).map PyData.int
  | _ => none
theorem cd_maxT (hc : X.calm = true) (hu : X.A.units + 64 < cLine) : CallD X W (.builtin "max") maxT := by
  refine ⟨_, cr_maxT hc hu, fun vs ds d S σ c Q e hh rs q => ?_⟩
  unfold maxT at e
  split at e
  · obtain ⟨m, e1, e2⟩ := Option.map_eq_some_iff.mp e
    obtain ⟨ns, e3, e4⟩ := Option.bind_eq_some_iff.mp e1
    subst e2
    obtain ⟨v, rfl, r⟩ := rs.one
    obtain ⟨a, xs, rfl, a1, r1⟩ := r.tupI
    rw [allI_ok e3] at r1
    cases r1.intsV
    cases ns with
    | nil => cases e4
    | cons n ns =>
      cases e4
      exact ⟨a, n, ns, rfl, sameT hh.zh a1, q c _ (Stp.refl _) hh (.int _)⟩
  · cases e
def maxX (as : List D) : Option D := match maxD as with
  | some r => some r
  | none => maxT as
theorem CallD.orElse {f : Value} {g g' : List D → Option D} (h : CallD X W f g) (h' : CallD X W f g') : CallD X W f (fun as => match g as with | some r => some r | none => g' as) := by
  obtain ⟨r, h1, h2⟩ := h
  obtain ⟨r', h1', h2'⟩ := h'
  refine ⟨_, CallR.or' h1 h1', fun vs ds es S σ c Q e hh rs q => ?_⟩
  simp only at e
  split at e
  · rename_i x hx
    exact .inl (h2 vs ds es S σ c Q (by rw [hx, e]) hh rs q)
  · exact .inr (h2' vs ds es S σ c Q e hh rs q)
theorem cd_maxX (hc : X.calm = true) (hu : X.A.units + 64 < cLine) : CallD X W (.builtin "max") maxX := CallD.orElse (cd_max hc) (cd_maxT hc hu)
end
end FW

/-! FwT2: a place of an own list or dict as one of several targets. -/
namespace FW
open PySem PySem.Spec L2
open PyProof.Rows hiding St
section
variable {X : Cx} {W : WX} {pos p p2 : Pos} {x : Str}
def gSubO (i : Nat) (fk : EM D) : Tg := fun d S => match slotAt S i with
  | some _ => match fk S with
    | .ok k S2 => ((S2[i]?).bind fun s => setAtD s k d).map fun s' => S2.set i s'
    | _ => none
  | none => none
theorem dg_sub (hu : X.A.units + 64 < cLine) (i : Nat) {k : Expr} {fk : EM D} (hk : DE X W k fk)
    (hN : X.N[i]? = some x := by rfl) (hvis : Vis X.env.scope x := by first | exact Or.inl rfl | exact Or.inr (Or.inl rfl) | exact Or.inr (Or.inr rfl)) (hd : (x == ("__debug__" : Str)) = false := by decide) (hcd : (x == ("__classdict__" : Str)) = false := by decide)
    (ha : ∀ v, assign (.Subscript (.Name x p) k p2) X.env v = (do
      let ov ← holding [v] (eval (.Name x p) X.env)
      let iv ← holding [v, ov] (eval k X.env)
      standAt p2
      holding [v, ov, iv] (setItem ov iv v)
      release [v, ov, iv] []) := by intro _; rfl) : DG X W (.Subscript (.Name x p) k p2) [] (gSubO i fk) := by
  refine PG.wk (pg_sub (pe_var hN hvis hd hcd) hk (PSet.or set_list (set_dict (by omega))) ha) fun y σ H Q q => ?_
  obtain ⟨S, Z, F, d, S', h, ry, e, q⟩ := q
  unfold gSubO at e
  split at e
  rotate_left
  · cases e
  rename_i d0 e0
  split at e
  rotate_left
  · cases e
  rename_i kk S2 ek
  obtain ⟨s', e1, e3⟩ := Option.map_eq_some_iff.mp e
  subst e3
  obtain ⟨p0, e2, _⟩ := h.loAt e0
  refine ⟨.ref p0, e2, S, Z, F, h, ?_⟩
  rw [ek]
  intro c2 s2 h2 z rz
  exact setAt_rd h2 e2 e1 (ry.mono s2.z) rz fun c' st hh => q σ c' (s2.trans st) hh (fun _ _ => rfl)
end
end FW

/-! FwT3: len(set(xs)) of any list of ints. -/
namespace FW
open PySem PySem.Spec L2
open PyProof.Rows hiding St
section
variable {X : Cx} {W : WX} {pos p p2 q : Pos}
/-- each once, in the order of the first -/
def ddI (ns : List Int) : List Int := ns.foldl step_dedup []
theorem firstMet_all (ns : List Int) : firstMet (fun i => ns.getD i 0) ns.length = ddI ns := by
  unfold firstMet ddI
  congr 1
  apply List.ext_getElem
  · simp
  intro i h1 h2
  rw [List.getElem_map, List.getElem_range, List.getD_eq_getElem?_getD, List.getElem?_eq_getElem h2]
  rfl
theorem ddI_le (ns : List Int) : (ddI ns).length ≤ ns.length := by
  rw [← firstMet_all]
  exact firstMet_length_le _ _
def tLenSetG (K : PySem.W.Frag) (ta : TE) : TE := fun σ H Q => ta σ H fun x H1 => ∃ (l : Addr) (ns : List Int), x = .ref l ∧ SqL K H1 l (ns.map V.int) ∧ ns.length ≤ 4000 ∧ Q (.int ((ddI ns).length : Nat)) H1
theorem pe_lenSetG {a : Expr} {ta : TE} (hg : Gl X "len") (hm : X.mg "len" = none) (hg2 : Gl X "set") (hm2 : X.mg "set" = none) (ha : PE X a ta) (hc : X.calm = true := by rfl)
    (na : starEach [a] X.env = (false, eval a X.env) :: starEach [] X.env := by rfl) : PE X (.Call (.Name "len" p) [.Call (.Name "set" p2) [a] [] q] [] pos) (tLenSetG X.K ta) := by
  refine ⟨fun pins s σ H Q I h => ?_⟩
  refine Call_ (ld_blt I hg hm boot_len ?_)
  refine PyProof.Rows.callWith_builtin1 (PyProof.Rows.args_cons ?_ rfl) rfl rfl
  refine Call_ (ld_blt I hg2 hm2 boot_set ?_)
  refine PyProof.Rows.callWith_type1 (PyProof.Rows.args_cons (thn (ha.run pins s σ H _ I h) fun v s1 ⟨x, H1, I1, r1, q1⟩ => PyProof.Rows.args_nil ?_) na) na rfl
  obtain ⟨l, ns, rfl, hq, hl, q1⟩ := q1
  cases r1
  obtain ⟨its, r, pl, hz⟩ := I1.list hq
  have hlen : its.toArray.size = ns.length := by rw [List.size_toArray, ← r.length, List.length_map]
  refine call_set_list (I1.ok.hd hc) pl.isList (by simpa using RZ.intsAre_vals r) (by rw [hlen]; unfold scanBound; omega) fun h' tk hS hk => ?_
  refine PyProof.Rows.args_nil ?_
  rw [hlen, firstMet_all] at hS
  obtain ⟨o, es, ep, t, ho, hex, hd, _, _, _, hf, hn⟩ := hS
  have hle := ddI_le ns
  have I2 : Inv X pins σ H1 { s1 with heap := h', toks := tk } := I1.kept fun b o e => hk b o (Heap.lt_size e) e
  exact call_len_set ho hex hd hf (by rw [hn]; omega) ⟨.int (ddI ns).length, H1, I2.tok _, ⟨_, by rw [hn]⟩, q1⟩
def lenSetD : D → Option D
  | .list ds => (allI ds).bind fun ns => if ns.length ≤ 4000 then some (.int ((ddI ns).length : Nat)) else none
  | _ => none
theorem de_lenSet {a : Expr} {f : EM D} (hg : Gl X "len") (hm : X.mg "len" = none) (hg2 : Gl X "set") (hm2 : X.mg "set" = none) (ha : DE X W a f) (hc : X.calm = true := by rfl)
    (na : starEach [a] X.env = (false, eval a X.env) :: starEach [] X.env := by rfl) : DE X W (.Call (.Name "len" p) [.Call (.Name "set" p2) [a] [] q] [] pos) (eUn lenSetD f) := by
  refine PE.wk (pe_lenSetG hg hm hg2 hm2 ha hc na) fun σ H Q q => ?_
  obtain ⟨S, Z, F, h, q⟩ := q
  refine ⟨S, Z, F, h, (Go.bind q).mono fun d S1 c1 s1 h1 q1 x rx => ?_⟩
  obtain ⟨dd, e, k⟩ := Go.opt q1
  unfold lenSetD at e
  split at e
  · obtain ⟨ns, e1, e2⟩ := Option.bind_eq_some_iff.mp e
    split at e2
    · rename_i hle
      cases e2
      obtain ⟨a1, xs, rfl, a2, r1⟩ := rx.lstI
      rw [allI_ok e1] at r1
      cases r1.intsV
      exact ⟨a1, ns, rfl, SqL.of (h1.zh _ _ a2), hle, k c1 (Stp.refl _) h1 _ (.int _)⟩
    · cases e2
  · cases e
end
end FW

/-! FwEx1: an own exception over ValueError, by way of another own class, whose __init__ says super().__init__(text + name) and keeps the name. -/
namespace FW
open PySem PySem.Spec L2
open PyProof.Rows hiding St
abbrev vI : String := "ValueError.__init__"
section
variable {prog : Program} {w : World} {A : Around} {E : Value → Shared → Prop} {h : Heap} {g : Array GenState} {d : Drawn} {t : Nat} {os : OsState}
variable {nm q : Str} {C N : Addr} {bs bm : List Value} {sn : List Str} {sub : List Value} {ab : Bool} {col : Option Bool} {dd : Option Addr} {k0 k1 k2 k3 k5 : Option Value}
/-- ValueError.__init__, bound to an exception, called -/
theorem bound_call {u e t0 : Addr} {rest : List Value} {Q : Value → Shared → Prop}
    (hC : h.get? C = some (excClassObj nm q C N bs bm true sn sub ab col dd k0 k1 k2 k3 k5 "ValueError.__new__")) (he : h.get? e = some (HandSPX.excO C t0)) (hu : h.get? u = some (PySem.W.kxs_mw vI e)) (hz : rest.length ≤ sizeLine)
    (hq : ∀ h' t1, (∀ b o, b ≠ e → h.get? b = some o → h'.get? b = some o) → h'.get? e = some (HandSPX.excO C t1) → Q .none ⟨h', g, d, t, os⟩) :
    wpAny (model prog w) A (call (.ref u) rest) Q E ⟨h, g, d, t, os⟩ := by
  refine wpAny_call (codeAny_of_tree ?_)
  show wpAny _ A.in1 (callAny (.ref u) ⟨rest, []⟩) _ _ _
  simp only [callAny]
  refine wpAny_bind (wpAny_load hu ?_)
  have c1 : (Value.type "method-wrapper" == Value.type "method" || Value.type "method-wrapper" == Value.type "builtin_function_or_method" || Value.type "method-wrapper" == Value.type "method-wrapper") = true := by decide
  simp only [PySem.W.kxs_mw, c1, if_true]
  refine PySem.W.KFB.if_so (by decide) (wpAny_bind (PySem.W.check_bound_init F.excBase_ValueError.toExcCallFacts hC he rfl (wpAny_bind (wpAny_pure (wpAny_pure ?_)))))
  exact ⟨plainId_quiet F.excBase_ValueError.init.plain _, codeAny_builtin F.excBase_ValueError.initEntry (PySem.W.exc_init_tree (cls := .ref C) (t0 := t0) (dv := none) (c2 := .none) (c3 := .none) (b4 := .bool false) he hz fun h' k e1 _ => hq h' _ k e1)⟩
end
/-- the body: super().__init__(m + y); self.y = y -/
def exBody (m y : Str) (j : Nat) (p0 p1 p2 p3 p4 p5 p6 p7 p8 p9 p10 p11 : Pos) : List Stmt :=
  [.Expr (.Call (.Attribute (.Call (.Name "super" p0) [] [] p1) "__init__" p2) [.BinOp (.Constant (.str m) j p3) .Add (.Name y p4) p5] [] p6) p7,
   .Assign [.Attribute (.Name "self" p8) y p9] (.Name y p10) p11]
/-- the call of the bound __init__ -/
def exCall (m y : Str) (j : Nat) (p0 p1 p2 p3 p4 p5 p6 : Pos) : Expr := .Call (.Attribute (.Call (.Name "super" p0) [] [] p1) "__init__" p2) [.BinOp (.Constant (.str m) j p3) .Add (.Name y p4) p5] [] p6
/-- what the names' kinds make of the body -/
structure ExEnv (env : Env) (m y : Str) (j : Nat) (p0 p1 p2 p3 p4 p5 p6 p7 p8 p9 p10 p11 : Pos) : Prop where
  it : interactive env = false
  s1 : swapsWith (exCall m y j p0 p1 p2 p3 p4 p5 p6) none p7.line env = pure false
  ev : ∃ pl : Sem Bool, eval (exCall m y j p0 p1 p2 p3 p4 p5 p6) env = (do
      let ov ← attributeBase (.Call (.Name "super" p0) [] [] p1) "__init__" env (eval (.Call (.Name "super" p0) [] [] p1) env)
      standAt p2.atName
      let (f, first) ← holding [ov] (getMethod ov "__init__" pl)
      callWith p6 f first (backTo p6 (starEach [.BinOp (.Constant (.str m) j p3) .Add (.Name y p4) p5] env)) [])
  se : starEach [.BinOp (.Constant (.str m) j p3) .Add (.Name y p4) p5] env = (false, eval (.BinOp (.Constant (.str m) j p3) .Add (.Name y p4) p5) env) :: starEach [] env
  s2 : swapsWith (.Name y p10) (some (.Attribute (.Name "self" p8) y p9)) p11.line env = pure false
/-- what the written part says of such a class -/
structure ExI (prog : Program) (K : PySem.W.Frag) (C fI cc : Addr) (fd : FuncData) (qual m y : Str) (scope : Scope) : Prop where
  oe : OexC K C
  ic : PySem.W.findIn K (.ref C) "__init__" = some (some (.ref fI))
  ti : PySem.W.typeIn K (.ref fI) = some (.type "function")
  nof : PySem.W.findIn K (.ref C) y = some none
  fn : ∃ (oc : Value) (od : Option Addr) (params : Arguments) (dV kV doc pm ct : Value) (an : Option Addr) (cda : Addr) (osl : Array (Option Value)) (j : Nat) (p0 p1 p2 p3 p4 p5 p6 p7 p8 p9 p10 p11 : Pos) (ar : Arg) (ccl : Value) (cdd : Option Addr) (vs : Array Value) (ccs : Array (Option Value)) (file : Str) (tf : Tok),
    fd = PySem.W.ksFn "__init__" qual params (exBody m y j p0 p1 p2 p3 p4 p5 p6 p7 p8 p9 p10 p11) scope dV kV doc pm an (.ref cda) ct cc ∧ K.lookup fI = some ⟨oc, od, .func fd, osl⟩ ∧ PySem.W.codeIn K (.ref cda) qual = true ∧
    (∀ L, ExEnv (callEnv fd L fI) m y j p0 p1 p2 p3 p4 p5 p6 p7 p8 p9 p10 p11) ∧ (params.posonlyargs ++ params.args).head? = some ar ∧ ar.arg = "self" ∧ K.lookup cda = some ⟨ccl, cdd, .fields vs, ccs⟩ ∧ vs[2]? = some (.str file tf) ∧ ((prog.main.file : Str) == file) = true
  cell : ∃ (cl : Value) (cld : Option Addr) (csl : Array (Option Value)), K.lookup cc = some ⟨cl, cld, .cell (some (.ref C)), csl⟩
  sup : PySem.W.ks_superIn K C C "__init__" = some (some (.builtin vI))
  nsup : PySem.W.nsIn K mainGlobals "super" = some none
  nth : PySem.W.nsIn K cStatics "thirdparty.any" = some none
  sV : PySem.W.subIn K (.ref C) (.type "ValueError") = some true
  sC : PySem.W.mroIn K C (.ref C) = some true
  top : (prog.main.scope.names.lookup ("super" : Str)).isSome = false
  k1 : scope.names.lookup ("super" : Str) = some .globalImplicit
  k2 : scope.names.lookup ("__class__" : Str) = some .free
  k3 : scope.names.lookup ("self" : Str) = some .local
  k4 : scope.names.lookup y = some .local
  kk : scope.kind = .function
  kco : scope.isCoroutine = false
  kge : scope.isGenerator = false
  kce : ∀ x ∈ scope.names, x.2 ≠ .cell
  yd : (y == ("__debug__" : Str)) = false
  ys : y ≠ "self"
  yl : m.length ≤ 1000
theorem bt_super : bootBuiltins "super" = some (.type "super") := by decide +kernel
section
variable {prog : Program} {w : World} {A : Around} {s : Shared} {K : PySem.W.Frag} {C fI cc a t0 : Addr} {fd : FuncData} {qual m y : Str} {scope : Scope} {mg mb : Str → Option Value} {args : Args} {z : Str} {tz : Tok} {R : Result → Shared → Prop}
set_option maxHeartbeats 4000000 in
theorem init_raw (I : ExI prog K C fI cc fd qual m y scope) (hroom : A.depth < recursionLimit) (X : K.In s.heap) (hlim : s.heap.NoLimit) (hg : s.heap.Ns mainGlobals mg) (hmg : ∀ x, PySem.W.nsIn K mainGlobals x = some none → mg x = none) (hb : s.heap.Ns builtinsNs mb) (hmb : mb "super" = bootBuiltins "super")
    (he : s.heap.get? a = some (HandSPX.excO C t0)) (hbind : BindsTo s fd args [("self", .ref a), (y, .str z tz)]) (hzl : z.length ≤ 100000) (hKa : K.lookup a = none)
    (h : ∀ h' tk dx t1, (∀ b o, b ≠ a → s.heap.get? b = some o → h'.get? b = some o) → s.heap.objs.size ≤ dx → dx ≠ a → h'.get? a = some { cls := .ref C, dict := some dx, data := .fields #[.ref t1, .none, .none, .none, .bool false, .none] } →
      h'.Ns1 dx (fun q => if q = y then some (.str z tz) else none) → R (.ok (.ret .none)) ⟨h', s.gens, s.drawn, tk, s.os⟩) :
    codeAny (model prog w) A (.call (.ref fI) args) R s := by
  obtain ⟨oc, od, params, dV, kV, doc, pm, ct, an, cda, osl, j, p0, p1, p2, p3, p4, p5, p6, p7, p8, p9, p10, p11, ar, ccl, cdd, vs, ccs, file, tf, efd, lk, hcd, hen, hp, har, lcd, hvs, hfile⟩ := I.fn
  obtain ⟨cl, cld, csl, lcc⟩ := I.cell
  obtain ⟨nm, q, N, bs, bm, sn, sub, ab, col, dd, k0, k1, k2, k3, k5, hC, hbm⟩ := I.oe.cls
  have hcl : PySem.W.clsIn K C = some { name := nm, bases := bs, mro := .ref C :: bm, ns := N, qualname := q, hasDict := true, slotNames := sn, subclasses := sub, abstract := ab, collection := col, hasDel := false } := by
    unfold PySem.W.clsIn
    rw [hC]
  subst efd
  have haC : a ≠ C := fun e => by
    have := X _ _ hC
    rw [← e, he] at this
    cases this
  refine ks_codeAny_call_defAt (fd := PySem.W.ksFn "__init__" qual params _ scope dV kV doc pm an (.ref cda) ct cc) hroom (X _ _ lk) rfl hlim (PySem.W.codeRec_of X hcd) rfl hbind I.kce (fun x hx => ?_) (fun h0 hns hk => ?_) I.kco I.kge I.kk
  · rcases List.mem_cons.mp hx with rfl | hx
    · exact I.k3
    · rw [List.mem_singleton.mp hx]
      exact I.k4
  obtain ⟨hp0, g, dr, tk, os⟩ := s
  have X0 : K.In h0 := X.keeps hk
  have hself : List.lookup ("self" : Str) ([(("self" : Str), Value.ref a), (y, Value.str z tz)].reverse) = some (Value.ref a) := by
    have e : (("self" : Str) == y) = false := by
      rw [beq_eq_false_iff_ne]
      exact fun e => I.ys e.symm
    show List.lookup ("self" : Str) [(y, Value.str z tz), (("self" : Str), Value.ref a)] = _
    rw [List.lookup_cons, e, List.lookup_cons_self]
  have hy : List.lookup y ([(("self" : Str), Value.ref a), (y, Value.str z tz)].reverse) = some (Value.str z tz) := by
    show List.lookup y [(y, Value.str z tz), (("self" : Str), Value.ref a)] = _
    rw [List.lookup_cons_self]
  have hea : h0.get? a = some (HandSPX.excO C t0) := hk _ _ he
  have hC0 : h0.get? C = some _ := X0 _ _ hC
  have hlt : a < h0.objs.size := Heap.lt_size hea
  have en := hen hp0.objs.size
  obtain ⟨pl, ev⟩ := en.ev
  refine ks_wpAt_execs_cons (ks_wpAt_Expr_any (ks_wpAt_MethodCall (pl := pl) ?_ ev) en.it en.s1)
  refine ks_wpAt_super_base (f := fI) (cc := cda) I.k1 I.k2 rfl rfl (X0 _ _ lk) rfl hp rfl (X0 _ _ lcd) rfl hvs hfile I.top ?_
  refine PySem.W.ks_loadName_global I.kk I.k1 (PySem.Calls.loadGlobal_builtin (hg.keeps hk) (hmg _ I.nsup) (hb.keeps hk) (hmb.trans bt_super) ⟨rfl, ?_⟩)
  refine wpAny_loadName_free I.kk I.k2 rfl ⟨_, X0 _ _ lcc, rfl⟩ ?_
  rw [har]
  refine wpAny_loadName_local I.kk I.k3 hns hself ?_
  refine ks_wpAny_isType_cls hC0 rfl ⟨rfl, ?_⟩
  refine ks_wpAny_call_super hC0 rfl hea rfl (fun c e => by cases e) (PySem.W.looks_mroIn X0 I.sC) (fun h1 so k1' => ?_)
  have X1 : K.In h1 := X0.keeps k1'
  have hea1 : h1.get? a = some (HandSPX.excO C t0) := k1' _ _ hea
  have Ins : PySem.W.InstAt h1 a (HandSPX.excO C t0) C none := ⟨hea1, rfl, rfl, trivial⟩
  refine PySem.W.kxs_getMethod PySem.W.kxs_ValueError so (PySem.W.looks_opaque X1 I.nth) (l₀ := .ref C :: bm) (fun A Q E s k q => wpAny_bind ((PySem.W.looks_clsIn X1 hcl) A _ E s k (wpAny_pure q))) rfl X1 (by
    have e := I.sup
    unfold PySem.W.ks_superIn at e
    rw [hcl] at e
    exact e) (Ins.type.andThen (PySem.W.looks_subIn X1 I.sV)) haC rfl ?_
  obtain ⟨h2, eh2⟩ : ∃ h2, h2 = h1.push (PySem.W.kxs_mw vI a) := ⟨_, rfl⟩
  rw [← eh2]
  have k2' : ∀ b o, h1.get? b = some o → h2.get? b = some o := fun b o e => by
    rw [eh2]
    exact Heap.get?_push_of_some _ e
  have hu : h2.get? h1.objs.size = some (PySem.W.kxs_mw vI a) := by
    rw [eh2]
    exact Heap.get?_push_size _ rfl
  have k02 : ∀ b o, h0.get? b = some o → h2.get? b = some o := fun b o e => k2' b o (k1' b o e)
  have hns2 := hns.keeps k02
  refine PySem.W.kxs_callWith (i := vI) (x := a) ?_ ?_
  · rw [en.se]
    rfl
  rw [en.se]
  refine PySem.Calls.evalArgs_plain (PySem.Calls.spliced_cons (wpAny_BinOp (PySem.Calls.Constant_str (wpAny_Name (wpAny_loadName_local I.kk I.k4 hns2 hy (PyProof.Rows.add_str (fun t' tk' => PySem.Calls.spliced_nil ⟨hu, ?_⟩) ?_)) I.yd))))
  · refine bound_call (X0.keeps k02 _ _ hC) (k02 _ _ hea) hu (by show 1 ≤ sizeLine; rw [sizeLine_eq]; omega) fun h3 t1 k3' hea3 => ?_
    have hns3 : h3.Ns hp0.objs.size _ := hns2.at fun o e => k3' _ _ (Nat.ne_of_gt (Heap.lt_size he)) e
    have hk3 : ∀ b o, b ≠ a → hp0.get? b = some o → h3.get? b = some o := fun b o n e => k3' b o n (k02 b o (hk b o e))
    have X3 : K.In h3 := fun b o e => by
      refine hk3 b o (fun z => ?_) (X b o e)
      rw [z, hKa] at e
      cases e
    refine ks_wpAt_execs_cons (ks_wpAt_Assign_Attr (wpAt_of_wpAny (wpAny_Name (wpAny_loadName_local I.kk I.k4 hns3 hy (wpAny_Name (wpAny_loadName_local I.kk I.k3 hns3 hself ?_) (by decide))) I.yd)) en.s2)
    have Ins3 : PySem.W.InstAt h3 a (HandSPX.excO C t1) C none := ⟨hea3, rfl, rfl, trivial⟩
    refine PySem.W.set_plain X3 Ins3 I.oe.sa (HandSPX.exc_osa X3 hea3 hcl (show HandSPX.refsVE (.ref C :: bm) = true from hbm) rfl I.nof fun h4 tk4 dx k4' hdx hne hea4 hns4 => ?_)
    refine wpAt_of_wpAny (wpAny_execs_nil ?_)
    refine h h4 tk4 dx t1 (fun b o n e => k4' b o n (hk3 b o n e)) (Nat.le_trans ?_ hdx) hne hea4 hns4
    have l1 : hp0.objs.size < h3.objs.size := by
      obtain ⟨o, _, _, e1, _⟩ := hns3
      exact Heap.lt_size e1
    exact Nat.le_of_lt l1
  · have := I.yl
    rw [sizeLine_eq]
    omega
end
end FW

/-! FwEx2: such an exception raised, and caught: its field given back or compared. -/
namespace FW
open PySem PySem.Spec L2
open PyProof.Rows hiding St
/-- what such an __init__ promises -/
def spXI (C : Addr) (y : Str) : Sp := fun vs H Q _ => ∃ (a : Addr) (x : Str), vs = [.ref a, .str x] ∧ x.length ≤ 100000 ∧ H a = some (exo a C none) ∧
  ∀ dx, H dx = none → dx ≠ a → Q .non (upd (upd H dx (exd dx [(y, .str x)])) a (exo a C (some dx)))
section
variable {P : Program} {w : World} {K : PySem.W.Frag} {mg : Str → Option Value} {base : Heap} {C fI cc : Addr} {fd : FuncData} {qual m y : Str} {scope : Scope}
theorem ok_exI (I : ExI P K C fI cc fd qual m y scope) : FnOk P w K mg base CX0 1 fI fd ["self", y] (spXI C y) := by
  refine ⟨fun vs H Q E h => ?_, fun A outer s H args us vs Q E hr e0 hb r hsp => ?_⟩
  · obtain ⟨a, x, rfl, _⟩ := h
    rfl
  obtain ⟨a, x, rfl, hxl, ha, q⟩ := hsp
  obtain ⟨t, rfl⟩ : ∃ t, us = [.ref a, .str x t] := by
    cases r with
    | cons r1 r2 =>
      cases r2 with
      | cons r3 r4 =>
        cases r4
        cases r1
        obtain ⟨t, rfl⟩ := r3
        exact ⟨t, rfl⟩
  have bk : ∀ b o, base.get? b = some o → s.heap.get? b = some o := fun b o e => (e0.bs b o e).1
  have KX : K.In s.heap := e0.mod.kin.keeps bk
  obtain ⟨t0, ho⟩ := exo_at e0.hok ha
  have hKa : K.lookup a = none := by
    cases e : K.lookup a with
    | none => rfl
    | some o =>
      have := (e0.bs a o (e0.mod.kin _ _ e)).2
      rw [ha] at this
      cases this
  obtain ⟨mb, hmb1, hmb2⟩ := e0.mod.blt
  refine init_raw (mg := mg) (mb := mb) (tz := t) I (by have := hr.dp; omega) KX (e0.mod.nolimit.keeps bk) (e0.mod.glob.keeps bk) (fun x hx => PySem.W.mg_none_of e0.mod.kin e0.mod.glob hx) (hmb1.keeps bk) (hmb2 _ (by decide)) ho hb hxl hKa fun h' tk dx t1 k hd hne hea hns => ?_
  have hnd : H dx = none := e0.hok.fresh hd
  have nd : ∀ {b : Addr} {o : Obj}, s.heap.get? b = some o → b ≠ dx := fun {b o} z => Nat.ne_of_lt (Nat.lt_of_lt_of_le (Heap.lt_size z) hd)
  have na : ∀ {b : Addr}, H b = none → b ≠ a := fun {b} n z => by
    rw [z, ha] at n
    cases n
  refine ⟨.non, upd (upd H dx (exd dx [(y, .str x)])) a (exo a C (some dx)), rfl, e0.bare, ?_, ?_, rfl, q dx hnd hne⟩
  · exact {
      keep := fun b o z n _ _ => k b o (na n) z
      slot := fun b o z n _ _ => ⟨o.slots, k b o (na n) z⟩
      free := fun b o z n _ => (upd_ne (na n)).trans ((upd_ne (nd z)).trans n)
      there := fun b o z _ => by
        by_cases e : b = a
        · subst e
          exact ⟨_, hea⟩
        · exact ⟨o, k b o e z⟩
      tups := fun b xs z => (upd_ne (at_ne ha z exo_tup)).trans ((upd_ne (ne_of_none z hnd)).trans z)
      frzs := fun b o v z => (upd_ne (at_ne ha z exo_frz)).trans ((upd_ne (ne_of_none z hnd)).trans z)
      tbls := fun b ps z => ⟨#[], ((upd_ne (at_ne ha z exo_tbl)).trans ((upd_ne (ne_of_none z hnd)).trans z)).trans (by simp)⟩ }
  · intro b o z
    by_cases e1 : b = a
    · subst e1
      rw [upd_same] at z
      cases z
      exact exo_ok hea
    rw [upd_ne e1] at z
    by_cases e2 : b = dx
    · subst e2
      rw [upd_same] at z
      cases z
      exact exd_ok hns (relO_put (fs := []) (u := Value.str x t) ⟨t, rfl⟩ fun _ => True.intro)
    rw [upd_ne e2] at z
    refine (e0.hok b o z).stay (fun c v hc zz => k c v ?_ zz) (fun c hc => (upd_ne (at_ne ha hc exo_own)).trans ((upd_ne (ne_of_none hc hnd)).trans hc)) (fun c xs hc => (upd_ne (at_ne ha hc exo_tup)).trans ((upd_ne (ne_of_none hc hnd)).trans hc))
    rcases hc with hc | hc
    · rw [hc]
      exact e1
    · exact at_ne ha hc exo_own
end
/-- an own exception class that may be raised by its name -/
structure ExC (P : Program) (w : World) (K : PySem.W.Frag) (mg : Str → Option Value) (base : Heap) (cls : String) (y : Str) : Prop where
  ex : ∃ (C fI : Addr) (fd : FuncData), mg (Str.ofString cls) = some (.ref C) ∧ OexC K C ∧ PySem.W.findIn K (.ref C) "__init__" = some (some (.ref fI)) ∧ PySem.W.typeIn K (.ref fI) = some (.type "function") ∧ FnOk P w K mg base CX0 1 fI fd ["self", y] (spXI C y) ∧
    L2.Binds K fd ["self", y] [] ∧ PySem.W.exmOne K (.ref C) (.ref C) = some true ∧ XfC K C ∧ PySem.W.findIn K (.ref C) y = some none
section
variable {X : Cx} {W : WX} {pos p p2 : Pos} {e : Expr} {f : EM D} {cls : String} {y : Str}
def sRaise (cls : String) (y : Str) (f : EM D) : SM := sOf f fun d S => match d with
  | .str z => if z.length ≤ 100000 then .ex ⟨cls, [(y, .str z)]⟩ S else .bad
  | _ => .bad
theorem ds_raise (tk : Takes X W) (T : ExC X.prog X.w X.K X.mg X.base cls y) (hr : Room 2 X.A) (he : DE X W e f) (hc : X.calm = true := by rfl) (hg : Gl X (Str.ofString cls) := by rfl) (hdb : ((Str.ofString cls) == ("__debug__" : Str)) = false := by decide)
    (hse : starEach [e] X.env = (false, eval e X.env) :: starEach [] X.env := by rfl) (hpl : (backTo pos (starEach [] X.env)).any (·.1) = false := by rfl) :
    DS X W (.Raise (some (.Call (.Name (Str.ofString cls) p) [e] [] pos)) none p2) (sRaise cls y f) := by
  obtain ⟨C, fI, fd, hm, oe, ic, ti, F1, hb, _⟩ := T.ex
  have ha : DA X W [e] (aCons f aNil) := da_cons he da_nil hse
  refine PS.wk (ps_raise hc tk (pmk_oex (ds := []) (dvs := []) oe ic ti F1 hr hb .nil pass0 hg hm ha hdb hse hpl)) fun Q σ H q => ?_
  obtain ⟨S, Z, F, h, q⟩ := q
  have q' : Go (gx X W) σ ⟨Z, H, F⟩ (f S) (fun d S' c' => GoS (gx X W) c' Q (match d with | .str z => if z.length ≤ 100000 then .ex ⟨cls, [(y, .str z)]⟩ S' else .bad | _ => .bad)) := Go.toS q fun dd S1 c1 s1 h1 q1 => q1
  refine ⟨S, Z, F, h, ?_⟩
  have q2 : Go (gx X W) σ ⟨Z, H, F⟩ (aCons f aNil S) (fun ds S' c' => ∃ d, ds = [d] ∧ GoS (gx X W) c' Q (match d with | .str z => if z.length ≤ 100000 then .ex ⟨cls, [(y, .str z)]⟩ S' else .bad | _ => .bad)) := by
    unfold aCons eBind
    cases ef : f S with
    | ok d S1 =>
      rw [ef] at q'
      intro c' s' h'
      exact ⟨d, rfl, q' c' s' h'⟩
    | ex x S1 => rw [ef] at q'; exact q'
    | bad => rw [ef] at q'; exact q'
  refine q2.mono fun ds S1 c1 s1 h1 q3 vs rs => ?_
  obtain ⟨d, rfl, q3⟩ := q3
  cases rs with
  | cons r1 r2 =>
    cases r2
    cases d with
    | str z =>
      cases r1
      by_cases hz : z.length ≤ 100000
      · have q4 : ∀ σ' c' cls' dx, Stp c1 c' → Holds X.K S1 σ' c' → ExOk X.mg c'.Z ⟨cls, [(y, .str z)]⟩ cls' dx → W cls' dx σ' c'.H := by
          have := q3
          simp only [hz, if_true] at this
          exact this
        refine ⟨by show 1 ≤ 1000; decide, fun a na => ⟨a, z, rfl, hz, upd_same, fun dx hdx hne => ⟨rfl, dx, [(y, .str z)], upd_same, (upd_ne hne).trans upd_same, ?_, ?_⟩⟩⟩
        · have z1 : upd c1.H a (exo a C none) dx = none := hdx
          rw [upd_ne hne] at z1
          exact z1
        · have hdx1 : c1.H dx = none := by
            have z1 : upd c1.H a (exo a C none) dx = none := hdx
            rw [upd_ne hne] at z1
            exact z1
          have eH : upd (del (upd (upd (upd c1.H a (exo a C none)) dx (exd dx [(y, V.str z)])) a (exo a C (some dx))) a) dx (.xd [(y, V.str z)]) = upd c1.H dx (.xd [(y, V.str z)]) := by
            funext b
            by_cases e1 : b = dx
            · subst e1
              rw [upd_same, upd_same]
            rw [upd_ne e1, upd_ne e1]
            by_cases e2 : b = a
            · subst e2
              rw [del_same, na]
            rw [del_ne e2, upd_ne e2, upd_ne e1, upd_ne e2]
          rw [eH]
          obtain ⟨s2, h2⟩ := h1.lay (o := .xd [(y, V.str z)]) hdx1
          exact q4 σ (c1.lay dx (.xd [(y, V.str z)])) (.ref C) (some dx) s2 h2 ⟨C, dx, hm, rfl, rfl, upd_same⟩
      · have : GoS (gx X W) c1 Q .bad := by
          have := q3
          simp only [hz, if_false] at this
          exact this
        exact this.elim
    | _ => exact q3.elim
/-! ### caught -/
def sTry (cls : String) (i : Nat) (body : SM) (g : List (Str × V) → SM) : SM := fun S => match body S with
  | .ex e S1 => if e.cls = cls ∧ i < S1.length then g e.fs S1 else .bad
  | o => o
/-- return e.y; return e.y == m -/
def gRet (y : Str) : List (Str × V) → SM := fun fs S => match fs.lookup y with
  | some (.str x) => .rt (.str x) S
  | _ => .bad
def gCmp (y m : Str) : List (Str × V) → SM := fun fs S => match fs.lookup y with
  | some (.str x) => .rt (.bool (decide (x = m))) S
  | _ => .bad
variable {n : Str} {i : Nat} {body : List Stmt} {np np2 pos' p3 p4 p5 : Pos} {fb : SM} {g : List (Str × V) → SM} {b0 : Stmt} {suite : List Stmt}
theorem ds_try (T : ExC X.prog X.w X.K X.mg X.base cls y) (hN : X.N.Nodup) (hi : X.N[i]? = some n) (hln : X.env.kindOf n = some .local) (hs : X.stack = X.env :: X.outer) (hf : X.env.frame = some X.env.locals) (hg : Gl X (Str.ofString cls)) (hdb : ((Str.ofString cls) == ("__debug__" : Str)) = false)
    (hb : ∀ (W : WX) (pn : List (Addr × Obj)) (xe : Value → Shared → Prop), Takes (X.tr pn xe) W → DSs (X.tr pn xe) W body fb)
    (ts : Addr → Value → Option Addr → TS)
    (hsu : ∀ (a : Addr) (oe : Obj) (c : Value) (d : Option Addr) (pn : List (Addr × Obj)), Zc c d oe → (∃ vs, oe.data = .fields vs) → PSs (X.suite a ((a, oe) :: pn)) (b0 :: suite) (ts a c d))
    (hts : ∀ (a d C : Addr) (fs : List (Str × V)) (S : List Slot) (σ : Sg) (c : Cfg) (Q : Ends), X.mg (Str.ofString cls) = some (.ref C) → Holds X.K S σ c → i < σ.length → c.H a = none → c.H d = some (.xd fs) → GoS (gx X W0) c Q (g fs S) →
      ts a (.ref C) (some d) { nx := fun σ' H' => Q.nx (σ'.set i none) H', rt := Q.rt, bk := fun σ' H' => Q.bk (σ'.set i none) H', ct := fun σ' H' => Q.ct (σ'.set i none) H' } (σ.set i (some (.ref a))) c.H) :
    DS X W0 (.Try body [.ExceptHandler (some (.Name (Str.ofString cls) np)) (some n) (b0 :: suite) pos'] [] [] pos) (sTry cls i fb g) := by
  obtain ⟨C, fI, fd, hm, oe, ic, ti, F1, hbi, hex, hxf, hno⟩ := T.ex
  refine PS.wk (ps_try_as (c := .ref C) (Wout := W0) (tb := fun W => tS (gx X W) fb) hs hf hN hi hln ⟨hg, hdb, .inl hm⟩ takes0 (fun W pn xe tk _ => hb W pn xe tk) hsu) fun Q σ H q => ?_
  obtain ⟨S, Z, F, h, q⟩ := q
  refine ⟨S, Z, F, h, ?_⟩
  have q1 : GoS (gx X W0) ⟨Z, H, F⟩ Q (match fb S with | .ex e S1 => if e.cls = cls ∧ i < S1.length then g e.fs S1 else .bad | o => o) := q
  cases eb : fb S with
  | ex x S1 =>
    rw [eb] at q1
    have q1 : GoS (gx X W0) ⟨Z, H, F⟩ Q (if x.cls = cls ∧ i < S1.length then g x.fs S1 else .bad) := q1
    by_cases hc : x.cls = cls ∧ i < S1.length
    · rw [if_pos hc] at q1
      intro σ' c' cls' dx st hh xo
      obtain ⟨C', d, m1, rfl, rfl, m2⟩ := xo
      have eC : C' = C := by
        have m1 : X.mg (Str.ofString x.cls) = some (.ref C') := m1
        rw [hc.1, hm] at m1
        cases m1
        rfl
      subst eC
      exact ⟨true, hex, fun _ a na => hts a d C' x.fs S1 σ' c' Q hm hh (by rw [hh.l.len]; exact hc.2) na (hh.zh _ _ m2) (q1.step st), fun z => by cases z⟩
    · rw [if_neg hc] at q1
      exact q1.elim
  | nx S1 => rw [eb] at q1; exact q1
  | rt d S1 => rw [eb] at q1; exact q1
  | bk S1 => rw [eb] at q1; exact q1
  | ct S1 => rw [eb] at q1; exact q1
  | bad => rw [eb] at q1; exact q1.elim
theorem set_at {σ : Sg} {x : Option V} (h : i < σ.length) : (σ.set i x)[i]? = some x := by
  rw [List.getElem?_set_self h]
theorem ds_tryRet (T : ExC X.prog X.w X.K X.mg X.base cls y) (hN : X.N.Nodup)
    (hb : ∀ (W : WX) (pn : List (Addr × Obj)) (xe : Value → Shared → Prop), Takes (X.tr pn xe) W → DSs (X.tr pn xe) W body fb)
    (hi : X.N[i]? = some n := by rfl) (hln : X.env.kindOf n = some .local := by rfl) (hs : X.stack = X.env :: X.outer := by rfl) (hf : X.env.frame = some X.env.locals := by rfl) (hg : Gl X (Str.ofString cls) := by rfl) (hdb : ((Str.ofString cls) == ("__debug__" : Str)) = false := by decide)
    (hv : Vis X.env.scope n := by first | exact Or.inl rfl | exact Or.inr (Or.inl rfl) | exact Or.inr (Or.inr rfl)) (hd : (n == ("__debug__" : Str)) = false := by decide) (hcd : (n == ("__classdict__" : Str)) = false := by decide) :
    DS X W0 (.Try body [.ExceptHandler (some (.Name (Str.ofString cls) np)) (some n) [.Return (some (.Attribute (.Name n p3) y p4)) p5] pos'] [] [] pos) (sTry cls i fb (gRet y)) := by
  obtain ⟨C, fI, fd, hm, oe, ic, ti, F1, hbi, hex, hxf, hno⟩ := id T.ex
  refine ds_try T hN hi hln hs hf hg hdb hb (fun a c d => tSeq (tRet (tXf a c d C y (tVar i))) tNext) (fun a oe c d pn hz hf => pss_cons (ps_ret (pe_xf hxf hno hz hf (pe_var hi hv hd hcd))) pss_nil) fun a d C' fs S σ c Q m1 hh hl na hd q => ?_
  have eC : C' = C := by
    rw [hm] at m1
    cases m1
    rfl
  subst eC
  unfold gRet at q
  cases el : fs.lookup y with
  | none => rw [el] at q; exact q.elim
  | some v =>
    rw [el] at q
    cases v with
    | str x => exact ⟨.ref a, set_at hl, rfl, rfl, d, fs, .str x, rfl, hd, el, q _ _ _ (Stp.refl _) hh (.str x)⟩
    | _ => exact q.elim
theorem ds_tryCmp {m : Str} {j : Nat} {p6 p7 : Pos} (T : ExC X.prog X.w X.K X.mg X.base cls y) (hN : X.N.Nodup)
    (hb : ∀ (W : WX) (pn : List (Addr × Obj)) (xe : Value → Shared → Prop), Takes (X.tr pn xe) W → DSs (X.tr pn xe) W body fb)
    (hi : X.N[i]? = some n := by rfl) (hln : X.env.kindOf n = some .local := by rfl) (hs : X.stack = X.env :: X.outer := by rfl) (hf : X.env.frame = some X.env.locals := by rfl) (hg : Gl X (Str.ofString cls) := by rfl) (hdb : ((Str.ofString cls) == ("__debug__" : Str)) = false := by decide)
    (hv : Vis X.env.scope n := by first | exact Or.inl rfl | exact Or.inr (Or.inl rfl) | exact Or.inr (Or.inr rfl)) (hd : (n == ("__debug__" : Str)) = false := by decide) (hcd : (n == ("__classdict__" : Str)) = false := by decide) :
    DS X W0 (.Try body [.ExceptHandler (some (.Name (Str.ofString cls) np)) (some n) [.Return (some (.Compare (.Attribute (.Name n p3) y p4) [.Eq] [.Constant (.str m) j p6] p7)) p5] pos'] [] [] pos) (sTry cls i fb (gCmp y m)) := by
  obtain ⟨C, fI, fd, hm, oe, ic, ti, F1, hbi, hex, hxf, hno⟩ := id T.ex
  refine ds_try T hN hi hln hs hf hg hdb hb (fun a c d => tSeq (tRet (tOp rEq (tXf a c d C y (tVar i)) (tC (.str m)))) tNext) (fun a oe c d pn hz hf => pss_cons (ps_ret (pe_cmpR op_eq (pe_xf hxf hno hz hf (pe_var hi hv hd hcd)) pe_str rfl)) pss_nil) fun a d C' fs S σ c Q m1 hh hl na hd q => ?_
  have eC : C' = C := by
    rw [hm] at m1
    cases m1
    rfl
  subst eC
  unfold gCmp at q
  cases el : fs.lookup y with
  | none => rw [el] at q; exact q.elim
  | some v =>
    rw [el] at q
    cases v with
    | str x =>
      have q2 : Q.rt (.bl (decide (V.str x = V.str m))) c.H := by
        have e : decide (V.str x = V.str m) = decide (x = m) := by
          by_cases h : x = m
          · subst h
            simp
          · rw [decide_eq_false h, decide_eq_false fun z => h (by cases z; rfl)]
        rw [e]
        exact q _ _ _ (Stp.refl _) hh (.bl _)
      exact ⟨.ref a, set_at hl, rfl, rfl, d, fs, .str x, rfl, hd, el, rfl, q2⟩
    | _ => exact q.elim
end
end FW

/-! FwEx3: the head's facts about own exceptions. -/
namespace FW
open PySem PySem.Spec L2
open PyProof.Rows hiding St
abbrev FnE : Type := Option (Str × Str × Arguments × FuncBody × Scope × Addr × List Str × Addr)
structure ExD where
  cls : String
  y : Str
  m : Str
  qual : Str
  params : Arguments
  body : List Stmt
  scope : Scope
def ExD.C (K : PySem.W.Frag) (d : ExD) : Addr := He.ga K (Str.ofString d.cls)
def ExD.f (K : PySem.W.Frag) (d : ExD) : Addr := He.ma K (d.C K) "__init__"
def fnE (K : PySem.W.Frag) (d : ExD) : FnE := match K.lookup (d.f K) with
  | some ⟨_, _, .func fd, _⟩ => some (fd.name, fd.qualname, fd.params, fd.body, fd.scope, fd.globals, fd.closure.map (·.1), fd.builtins)
  | _ => none
def ExD.val (d : ExD) : FnE := some ("__init__", d.qual, d.params, .stmts d.body, d.scope, mainGlobals, ["__class__"], builtinsNs)
/-- the class, as OexC wants it -/
def oeB (K : PySem.W.Frag) (C : Addr) : Bool := match K.lookup C with
  | some ⟨.type c, _, .cls cd, sl⟩ => (match cd.mro, sl.toList with
    | .ref C' :: bm, [_, _, _, _, some (.builtin n), _] => decide (c = "type") && decide (C' = C) && (!cd.hasDel && (cd.hasDict && decide (n = "ValueError.__new__"))) && HandSPX.refsVE bm
    | _, _ => false)
  | _ => false
theorem oeB_ok {K : PySem.W.Frag} {C : Addr} (h : oeB K C = true) : ∃ nm q N bs bm sn sub ab col dd k0 k1 k2 k3 k5, K.lookup C = some (excClassObj nm q C N bs bm true sn sub ab col dd k0 k1 k2 k3 k5 "ValueError.__new__") ∧ HandSPX.refsVE bm = true := by
  unfold oeB at h
  split at h
  · rename_i c dd cd sl e
    split at h
    · rename_i C' bm k0 k1 k2 k3 n k5 e1 e2
      simp only [Bool.and_eq_true, decide_eq_true_eq, Bool.not_eq_true'] at h
      obtain ⟨⟨⟨rfl, rfl⟩, h1, h2, rfl⟩, h3⟩ := h
      obtain ⟨nm, bs, mro, ns, qn, hd, sn, sub, ab, col, del⟩ := cd
      dsimp only at e1 h1 h2
      subst e1 h1 h2
      have hsl : sl = #[k0, k1, k2, k3, some (.builtin "ValueError.__new__"), k5] := by
        obtain ⟨l⟩ := sl
        simp only at e2
        rw [e2]
      subst hsl
      exact ⟨_, _, _, _, bm, _, _, _, _, _, _, _, _, _, _, e, h3⟩
    · cases h
  · cases h
/-- the def's cell and its code's file -/
def fileB (file : Str) : Option Value → Bool
  | some (.str f _) => file == f
  | _ => false
theorem fileB_ok {file : Str} {o : Option Value} (h : fileB file o = true) : ∃ f t, o = some (.str f t) ∧ (file == f) = true := by
  unfold fileB at h
  split at h
  · exact ⟨_, _, rfl, h⟩
  · cases h
def cellB (file : Str) (K : PySem.W.Frag) (d : ExD) : Bool := match K.lookup (d.f K) with
  | some ⟨_, _, .func fd, _⟩ => (match fd.closure, fd.code, fd.defaults with
    | [(_, cc)], .ref cda, .none => (match K.lookup cc, K.lookup cda with
      | some ⟨_, _, .cell (some (.ref D)), _⟩, some ⟨_, _, .fields vs, _⟩ => decide (D = d.C K) && (PySem.W.codeIn K (.ref cda) d.qual && fileB file vs[2]?)
      | _, _ => false)
    | _, _, _ => false)
  | _ => false
def excB (file : Str) (d : ExD) (K : PySem.W.Frag) : Bool :=
  oeB K (d.C K) && (cellB file K d && (decide (PySem.W.nsIn K mainGlobals (Str.ofString d.cls) = some (some (.ref (d.C K)))) && (decide (PySem.W.findIn K (.ref (d.C K)) "__setattr__" = some (some (.builtin "object.__setattr__"))) && (decide (PySem.W.subIn K (.ref (d.C K)) (.type "BaseException") = some true) &&
  (decide (PySem.W.typeIn K (.ref (d.C K)) = some (.type "type")) && (PySem.W.keepIn K (.ref (d.C K)) && (decide (PySem.W.findIn K (.ref (d.C K)) "__init__" = some (some (.ref (d.f K)))) && (decide (PySem.W.typeIn K (.ref (d.f K)) = some (.type "function")) &&
  (decide (PySem.W.findIn K (.ref (d.C K)) d.y = some none) && (decide (PySem.W.ks_superIn K (d.C K) (d.C K) "__init__" = some (some (.builtin vI))) && (decide (PySem.W.nsIn K mainGlobals "super" = some none) && (decide (PySem.W.nsIn K cStatics "thirdparty.any" = some none) &&
  (decide (PySem.W.subIn K (.ref (d.C K)) (.type "ValueError") = some true) && (decide (PySem.W.mroIn K (d.C K) (.ref (d.C K)) = some true) && (decide (PySem.W.exmOne K (.ref (d.C K)) (.ref (d.C K)) = some true) && xfB K (d.C K))))))))))))))))
/-- what the text alone says of such a class -/
structure ExT (prog : Program) (d : ExD) : Prop where
  bd : ∃ (j : Nat) (p0 p1 p2 p3 p4 p5 p6 p7 p8 p9 p10 p11 : Pos), d.body = exBody d.m d.y j p0 p1 p2 p3 p4 p5 p6 p7 p8 p9 p10 p11 ∧
    ∀ (dV kV doc pm ct cdv : Value) (an : Option Addr) (cc L f : Addr), ExEnv (callEnv (PySem.W.ksFn "__init__" d.qual d.params d.body d.scope dV kV doc pm an cdv ct cc) L f) d.m d.y j p0 p1 p2 p3 p4 p5 p6 p7 p8 p9 p10 p11
  hd : ∃ ar, (d.params.posonlyargs ++ d.params.args).head? = some ar ∧ ar.arg = "self"
  bi : ∀ (kV doc pm cdv ct : Value) (an : Option Addr) (cc : Addr) (us : List Value), us.length = 2 → bindArgs (PySem.W.ksFn "__init__" d.qual d.params d.body d.scope .none kV doc pm an cdv ct cc) ⟨us, []⟩ = pure ([("self" : Str), d.y].zip us)
  top : (prog.main.scope.names.lookup ("super" : Str)).isSome = false
  k1 : d.scope.names.lookup ("super" : Str) = some .globalImplicit
  k2 : d.scope.names.lookup ("__class__" : Str) = some .free
  k3 : d.scope.names.lookup ("self" : Str) = some .local
  k4 : d.scope.names.lookup d.y = some .local
  kk : d.scope.kind = .function
  kco : d.scope.isCoroutine = false
  kge : d.scope.isGenerator = false
  kce : ∀ x ∈ d.scope.names, x.2 ≠ .cell
  yd : (d.y == ("__debug__" : Str)) = false
  ys : d.y ≠ "self"
  yl : d.m.length ≤ 1000
theorem exC_of {prog : Program} {w : World} {K : PySem.W.Frag} {h : Heap} {mg : Str → Option Value} {d : ExD} (T : ExT prog d) (X : K.In h) (G : h.Ns mainGlobals mg) (e : fnE K d = d.val) (b : excB prog.main.file d K = true) : ∀ base, ExC prog w K mg base d.cls d.y := by
  intro base
  unfold excB at b
  simp only [Bool.and_eq_true, decide_eq_true_eq] at b
  obtain ⟨b1, b2, b3, b4, b5, b6, b7, b8, b9, b10, b11, b12, b13, b14, b15, b16, b17⟩ := b
  have oe : OexC K (d.C K) := ⟨oeB_ok b1, b4, b5, b6, b7⟩
  unfold cellB at b2
  unfold fnE at e
  split at b2
  · rename_i oc od fd osl lk
    rw [lk] at e
    have e := Option.some.inj e
    simp only [Prod.mk.injEq] at e
    obtain ⟨e1, e2, e3, e4, e5, e6, e7, e8⟩ := e
    split at b2
    · rename_i n cc cda hcl hcd hdf
      split at b2
      · rename_i cl cld D csl ccl cdd vs ccs lcc lcd
        simp only [Bool.and_eq_true, decide_eq_true_eq] at b2
        obtain ⟨rfl, c2, c3⟩ := b2
        · obtain ⟨file, tf, hvs, c3⟩ := fileB_ok c3
          obtain ⟨name, qualname, params, body, scope, globals, closure, defaults, kwdefaults, doc, pyModule, annotations, code, closureTuple, builtins⟩ := fd
          simp only at e1 e2 e3 e4 e5 e6 e7 e8 hcl hcd hdf
          subst e1 e2 e3 e4 e5 e6 e8 hcl hcd hdf
          have en : n = ("__class__" : Str) := by simpa using e7
          subst en
          obtain ⟨j, p0, p1, p2, p3, p4, p5, p6, p7, p8, p9, p10, p11, hbd, hen⟩ := T.bd
          obtain ⟨ar, har, har2⟩ := T.hd
          have hI : ExI prog K (d.C K) (d.f K) cc (PySem.W.ksFn "__init__" d.qual d.params d.body d.scope .none kwdefaults doc pyModule annotations (.ref cda) closureTuple cc) d.qual d.m d.y d.scope := {
            oe := oe, ic := b8, ti := b9, nof := b10
            fn := ⟨oc, od, d.params, .none, kwdefaults, doc, pyModule, closureTuple, annotations, cda, osl, j, p0, p1, p2, p3, p4, p5, p6, p7, p8, p9, p10, p11, ar, ccl, cdd, vs, ccs, file, tf, by rw [hbd], lk, c2, fun L => hen _ _ _ _ _ _ _ _ _ _, har, har2, lcd, hvs, c3⟩
            cell := ⟨cl, cld, csl, lcc⟩
            sup := b11, nsup := b12, nth := b13, sV := b14, sC := b15, top := T.top, k1 := T.k1, k2 := T.k2, k3 := T.k3, k4 := T.k4, kk := T.kk, kco := T.kco, kge := T.kge, kce := T.kce, yd := T.yd, ys := T.ys, yl := T.yl }
          refine ⟨d.C K, d.f K, _, ?_, oe, b8, b9, ok_exI hI, Binds.all (T.bi _ _ _ _ _ _ _), b16, xfB_ok b17, b10⟩
          exact PySem.W.mg_of X G b3
      · cases b2
    · cases b2
  · cases b2
/-! ### the head's hook -/
abbrev AlY : Type := AlX × List FnE
def obsY (fa : List He.Fa) (fn : List He.DefD) (bs : List (PySem.W.Frag → Bool)) (es : List ExD) (K : PySem.W.Frag) : AlY := (obsX fa fn bs K, es.map fun d => fnE K d)
def obsYG (n : Nat) (fa : List He.Fa) (fn : List He.DefD) (bs : List (PySem.W.Frag → Bool)) (es : List ExD) (g : Addr → Option Obj) : AlY := obsY fa fn bs es (He.frG g (cStatics :: He.asD g n))
def SaysY (fa : List He.Fa) (fn : List He.DefD) (bs : List (PySem.W.Frag → Bool)) (es : List ExD) (K : PySem.W.Frag) : Prop := obsY fa fn bs es K = ((He.valD fn, true), es.map ExD.val)
def hookY (n : Nat) (fa : List He.Fa) (fn : List He.DefD) (bs : List (PySem.W.Frag → Bool)) (es : List ExD) : PySem.W.Hook where
  α := AlY
  obs := fun s => obsYG n fa fn bs es s.heap.get?
  val := fun _ => ((He.valD fn, true), es.map ExD.val)
  says := fun _ h => ∃ K : PySem.W.Frag, K.In h ∧ SaysY fa fn bs es K
  of := fun _ _ e => ⟨_, He.frG_in, e⟩
  keeps := fun _ _ _ ⟨K, hK, c⟩ k => ⟨K, PySem.W.Frag.In.keeps hK k, c⟩
theorem obsYG_eq {n : Nat} {fa : List He.Fa} {fn : List He.DefD} {bs : List (PySem.W.Frag → Bool)} {es : List ExD} {g : Addr → Option Obj} {s : Shared} (h : ∀ a, g a = s.heap.get? a) : obsYG n fa fn bs es g = (hookY n fa fn bs es).obs s := by
  have e : g = s.heap.get? := funext h
  rw [e] <;> rfl
theorem SaysY.x {fa : List He.Fa} {fn : List He.DefD} {bs : List (PySem.W.Frag → Bool)} {es : List ExD} {K : PySem.W.Frag} (c : SaysY fa fn bs es K) : SaysX fa fn bs K := congrArg (fun z : AlY => z.1) c
theorem SaysY.e {fa : List He.Fa} {fn : List He.DefD} {bs : List (PySem.W.Frag → Bool)} {es : List ExD} {K : PySem.W.Frag} (c : SaysY fa fn bs es K) (i : Nat) {d : ExD} (h : es[i]? = some d := by rfl) : fnE K d = d.val := by
  have e : es.map (fun d => fnE K d) = es.map ExD.val := congrArg (fun z : AlY => z.2) c
  have e2 : (es.map fun d => fnE K d)[i]? = (es.map ExD.val)[i]? := by rw [e]
  rw [List.getElem?_map, List.getElem?_map, h] at e2
  exact Option.some.inj e2
end FW

/-! FwT4: the first place of any data in a list. -/
namespace FW
open PySem PySem.Spec L2
open PyProof.Rows hiding St
theorem units65 {k : Nat} {A : Around} (r : Room k A) : A.units + 65 < cLine := by
  have := r.un
  omega
def idxOk (ds : List D) (d : D) : Bool := noDictA ds && (noDict d && (SeqAt.shaped (.list ds) && SeqAt.shaped d))
def idxG (ds : List D) (d : D) : Option D := if idxOk ds d then (ds.findIdx? fun z => PyData.eqv z d).map fun j => .int (j : Nat) else none
section
variable {X : Cx} {W : WX} {pos p apos : Pos} {x : Str} {o k : Expr} {fo fk : EM D}
theorem idxG_rd {c : Cfg} {a : Addr} {ys : List V} {ds : List D} {y : V} {kd r : D} {Q : L2.VK} (hs : SqL X.K c.H a ys) (rs : RpA X.K c.Z ys ds) (ry : Rp X.K c.Z y kd) (zh : Same c.Z c.H) (e : idxG ds kd = some r) (q : ∀ v, Rp X.K c.Z v r → Q v c.H) : rIndexD X.K (.ref a) [y] c.H Q := by
  unfold idxG at e
  split at e
  · rename_i hk
    unfold idxOk at hk
    simp only [Bool.and_eq_true] at hk
    obtain ⟨h1, h2, h3, h4⟩ := hk
    obtain ⟨j, e3, e4⟩ := Option.map_eq_some_iff.mp e
    subst e4
    obtain ⟨hj, g1, g2⟩ := List.findIdx?_eq_some_iff_getElem.mp e3
    refine ⟨a, y, kd, ds, j, ds[j], rfl, rfl, .lst hs ((rs.mono zh).dp h1), (ry.mono zh).dp h2, h3, h4, List.getElem?_eq_getElem hj, g1, fun m z' hm hz => ?_, q _ (.int _)⟩
    rw [List.getElem?_eq_getElem (by omega)] at hz
    cases hz
    have := g2 m hm
    simpa using this
  · cases e
def eIdxG (fo fk : EM D) : EM D := eBind (eBind fo fun (d : D) => match d with | PyData.list ds => eRet (PyData.list ds) | _ => fun _ => .bad) fun d => eBind fk fun k => eOpt (match d with | PyData.list ds => idxG ds k | _ => none)
theorem de_indexG (hu : X.A.units + 65 < cLine) (ho : DE X W o fo) (hk : DE X W k fk)
    (hbase : attributeBase o "index" X.env (eval o X.env) = eval o X.env := by rfl)
    (hfew : ((backTo pos (starEach [k] X.env)).all (fun x => !x.1) && (backToKw pos (keywordEach [] X.env)).all (fun x => x.1.isSome)
      && decide ([k].length + ([] : List Keyword).length + (if ([] : List Keyword).isEmpty then 0 else 1) < 30)) = true := by rfl)
    (hline : (apos.endLine == pos.line) = true := by rfl) (hs : starEach [k] X.env = (false, eval k X.env) :: starEach [] X.env := by rfl) (hplain : (backTo pos (starEach [] X.env)).any (·.1) = false := by rfl) :
    DE X W (.Call (.Attribute o "index" apos) [k] [] pos) (eIdxG fo fk) := by
  refine PE.wk (pe_bm PySem.F.plainAttrs_list PySem.F.slot_list_index PySem.F.type_list_index (mt_indexD hu) ho (pa_cons hk pa_nil hs) (hbase := hbase) (hfew := hfew) (hline := hline) (hs := hs) (hplain := hplain)) fun σ H Q q => ?_
  obtain ⟨S, Z, F, h, q⟩ := q
  refine ⟨S, Z, F, h, (Go.bind (Go.bind q)).mono fun d S1 c1 s1 h1 q1 v rv => ?_⟩
  cases d with
  | list ds =>
    have q2 := q1 c1 (Stp.refl _) h1
    obtain ⟨a, ys, rfl, z1, r1⟩ := rv.lstI
    refine ⟨.inl ⟨rfl, ys, SqL.of (h1.zh _ _ z1)⟩, S1, c1.Z, c1.F, h1, (Go.bind q2).mono fun kd S2 c2 s2 h2 q3 y ry => ?_⟩
    obtain ⟨r, e, k⟩ := Go.opt q3
    exact idxG_rd (SqL.of (h2.zh _ _ (s2.z _ _ z1))) (r1.mono s2.z) ry h2.zh e fun v rv => k c2 (Stp.refl _) h2 v rv
  | _ => exact q1.elim
end
/-! plain reasoning -/
theorem X_idxG {fo fk : EM D} {S : List Slot} {PD : D → List Slot → Prop} : EpK (eIdxG fo fk) S PD = EpK fo S fun d S1 => LsK d fun ds => EpK fk S1 fun k S2 => OpK (idxG ds k) fun r => PD r S2 := by
  simp only [← Ep_K, ← Wp_K]
  unfold eIdxG
  rw [Ep_bind, Ep_bind]
  congr 1
  funext d S1
  cases d with
  | list ds =>
    rw [LsK_l, Ep_ret]
    show Ep (eBind fk fun k => eOpt (idxG ds k)) S1 PD = _
    rw [Ep_bind]
    congr 1
    funext k S2
    exact Ep_opt _
  | _ => simp [Ep_bad, LsK]
end FW

/-! FwT5: one of two readings, by what stands at a place. -/
namespace FW
open PySem PySem.Spec L2
open PyProof.Rows hiding St
def eAlt (i : Nat) (f1 f2 : EM D) : EM D := fun S => match S[i]? with
  | some (.dat _) => f1 S
  | _ => f2 S
section
variable {X : Cx} {W : WX} {e : Expr} {f1 f2 : EM D}
theorem de_alt (i : Nat) (h1 : DE X W e f1) (h2 : DE X W e f2) : DE X W e (eAlt i f1 f2) := by
  refine ⟨fun pins s σ H Q I h => ?_⟩
  obtain ⟨S, Z, F, hh, q⟩ := h
  unfold eAlt at q
  cases es : S[i]? with
  | none =>
    rw [es] at q
    exact h2.run pins s σ H Q I ⟨S, Z, F, hh, q⟩
  | some sl =>
    rw [es] at q
    cases sl with
    | dat d => exact h1.run pins s σ H Q I ⟨S, Z, F, hh, q⟩
    | _ => exact h2.run pins s σ H Q I ⟨S, Z, F, hh, q⟩
end
def AltK (o : Option Slot) (X Y : Prop) : PropOf2 X Y := match o with
  | some (.dat _) => X
  | _ => Y
theorem AltK_dat {d : D} {X Y : Prop} : AltK (some (.dat d)) X Y = X := rfl
theorem AltK_own {ds : List D} {X Y : Prop} : AltK (some (.own ds)) X Y = Y := rfl
theorem AltK_dic {t : Bool} {es : List (D × D)} {X Y : Prop} : AltK (some (.dic t es)) X Y = Y := rfl
theorem X_alt {i : Nat} {f1 f2 : EM D} {S : List Slot} {PD : D → List Slot → Prop} : EpK (eAlt i f1 f2) S PD = AltK (S[i]?) (EpK f1 S PD) (EpK f2 S PD) := by
  simp only [← Ep_K, ← Wp_K]
  unfold Ep eAlt
  cases S[i]? with
  | none => rfl
  | some sl => cases sl <;> rfl
end FW

/-! FwK0: the plain rules in two. -/
namespace FW
open PySem PySem.Spec L2
open PyProof.Rows hiding St
def kPre := And.intro @X_alt (And.intro @AltK_dat (And.intro @AltK_own (And.intro @AltK_dic (And.intro @Ep_K (And.intro @Wp_K (And.intro @IteK_t (And.intro @IteK_f (And.intro @OpK_some (And.intro @AndK_t (And.intro @RsK_ok (And.intro @nxtK_nx (And.intro @nxtK_rt (And.intro @nxtK_bk (And.intro @nxtK_ct (And.intro @nxtK_ex (And.intro @VK_dat (And.intro @VK_own (And.intro @VK_dic (And.intro @X_V (And.intro @X_ret (And.intro @X_opt (And.intro @X_bind (And.intro @X_C (And.intro @X_nil (And.intro @X_no (And.intro @X_some (And.intro @X_yes (And.intro @X_cons (And.intro @X_bin (And.intro @X_un (And.intro @X_ix (And.intro @X_B (And.intro @X_BF (And.intro @X_binF (And.intro @X_tup (And.intro @X_lst (And.intro @X_lstF (And.intro @X_bOf (And.intro @X_and (And.intro @X_or (And.intro @X_not (And.intro @BoK_b (And.intro @X_eAnd (And.intro @X_eOr (And.intro @X_eNot (And.intro @X_eIf (And.intro @X_sl (And.intro @X_fz (And.intro @X_chain (And.intro @X_call (And.intro @X_meth (And.intro @X_rng1 (And.intro @X_rng2 (And.intro @X_rng3 (And.intro @X_iA (And.intro @X_lr1 (And.intro @X_lr2 (And.intro @X_kget (And.intro @X_make (And.intro @X_get2 (And.intro @X_get1 (And.intro @X_eDic (And.intro @LsK_l (And.intro @X_idx (And.intro @X_idxG (And.intro @X_VO (And.intro @X_BO (And.intro @X_BFO (And.intro @X_binO (And.intro @X_ixO (And.intro @MuK_own (And.intro @OwK_own (And.intro @X_mut (And.intro @Y_nx (And.intro @Y_pass (And.intro @Y_brk (And.intro @Y_cnt (And.intro @Y_retN (And.intro @Y_seq (And.intro @Y_asg (And.intro @Y_set (And.intro @Y_own (And.intro @Y_dat (And.intro @Y_dic (And.intro @Y_ret (And.intro @Y_expr (And.intro @Y_if (And.intro @Y_par (And.intro @Y_par3 (And.intro @AuK_dat (And.intro @Y_aug (And.intro @Y_for (And.intro @Y_while (And.intro @Y_setIx (And.intro @X_W (And.intro @DrK_d (And.intro @WkK_d (And.intro @RwK_ok (And.intro @X_fzM (And.intro @X_prn (And.intro @X_prc (And.intro @X_disp (And.intro @X_vD (And.intro @X_vO (And.intro @X_vM (And.intro @Y_parK (And.intro @Y_parK3 (And.intro @lt_l0 (And.intro @lt_ls (And.intro @le_l0 (And.intro @le_ls (And.intro @ln_p (And.intro @eq_l0 (And.intro @eq_ls (@sm_l)))))))))))))))))))))))))))))))))))))))))))))))))))))))))))))))))))))))))))))))))))))))))))))))))))))))))))))))))))
def kPost := And.intro @slotAt_eq (And.intro @slotO_own (And.intro @slotO_dic (And.intro @g_N (And.intro @g_two (And.intro @g_three (And.intro @g_T (And.intro @g_L (And.intro @g_nil (And.intro @g_cons (And.intro @Option.bind_some.{0,0} (And.intro @Option.map_some.{0,0} (And.intro @List.getElem?_cons_zero.{0} (And.intro @List.getElem?_cons_succ.{0} (And.intro @List.set_cons_zero.{0} (And.intro @List.set_cons_succ.{0} (And.intro @asB_b (And.intro @asI_i (And.intro @eqD_ii (And.intro @neD_ii (And.intro @ltD_ii (And.intro @leD_ii (And.intro @gtD_ii (And.intro @geD_ii (And.intro @addD_ii (And.intro @subD_ii (And.intro @lenD_l (And.intro @lenD_t (And.intro @List.length_map.{0,0} (And.intro @List.length_range (And.intro @if_true.{1} (And.intro @if_false.{1} (And.intro @decide_true (And.intro @decide_false (And.intro @Bool.not_true (@Bool.not_false)))))))))))))))))))))))))))))))))))
end FW

namespace FW
open PySem PySem.Spec L2
open PyProof.Rows hiding St
def topS (i : Nat) : Stmt := PySem.Challenge.pw_farwords_k16_whole_transforms_and_flat_l.main.body.getD i (.Pass ⟨0, 0, 0, 0⟩)
section
variable {P : Program} {w : World} {K : PySem.W.Frag} {mg : Str → Option Value} {base : Heap}
/-! ### all_words -/
abbrev s_all_words : Stmt := topS 4
theorem sc_all_words : FnScope ["size", "many", "found", "turn", "word", "number"] ["size", "many"] (defScope s_all_words) := ⟨rfl, rfl, rfl, by decide +kernel, rfl, by decide +kernel, by decide +kernel⟩
def b_all_words : SM :=
  sSeq (sSet 2 (eLst (aCons (eTup (aNil)) (aNil)))) (sSeq (sFor (iR1 (aCons (eV 1) (aNil))) (gN 3) (sSeq (sDat 2 (eComp2 [4, 5] [5] (iA (eV 2)) (gN 4) (bYes) (iR1 (aCons (eV 0) (aNil))) (gN 5) (bYes) (eBin addD (eV 4) (eTup (aCons (eV 5) (aNil)))))) (sNx))) (sSeq (sRet (eV 2)) (sNx)))
def f_all_words : List D → Rs := runF 6 b_all_words
theorem ok_all_words {f : Addr} {fd : FuncData} (B : Blt mg) (F : Fun K "all_words" "all_words" s_all_words f fd)  : FnOk P w K mg base CX0 1 f fd ["size", "many"] (spD0 K 2 f_all_words) := by
  refine ok_D0 (k := 0) (N := ["size", "many", "found", "turn", "word", "number"]) F sc_all_words fun cdv A outer s H E hr => ?_
  have hu := hr.units
  have nd := sc_all_words.nd
  exact (ds_cons (ds_set 2 nd (de_lst (da_cons (de_tup da_nil) da_nil))) (ds_cons (ds_for PassesOwn.never rfl (di_range1 (by rfl) B.range (da_cons (de_v 1) da_nil)) (dg_name 3 nd rfl (by first | exact Or.inl rfl | exact Or.inr rfl)) (ds_cons (ds_datLc2 2 (own := [("word", 4), ("number", 5)]) (vs1 := [5]) rfl nd (di_any (de_v 2)) (blkOk_by (by rfl)) (by decide) (fun _ _ _ _ _ => (dg_name 4 nd rfl (by first | exact Or.inl rfl | exact Or.inr rfl))) (fun _ _ _ _ _ => dts_nil) (fun _ _ _ _ _ => (di_range1 (by rfl) B.range (da_cons (de_v 0) da_nil))) (fun _ _ _ _ _ => (dg_name 5 nd rfl (by first | exact Or.inl rfl | exact Or.inr rfl))) (fun _ _ _ _ _ => dts_nil) (fun _ _ _ _ _ => (de_op od_add (de_v 4) (dl_e (de_tup (da_cons (de_v 5) da_nil))))) (by decide) (by decide) (sw_true rfl rfl rfl (by decide +kernel))) ds_nil)) (ds_cons (ds_ret (de_v 2)) ds_nil)))
/-! ### points -/
abbrev s_points : Stmt := topS 7
theorem sc_points : FnScope ["many"] ["many"] (defScope s_points) := ⟨rfl, rfl, rfl, by decide +kernel, rfl, by decide +kernel, by decide +kernel⟩
def b_points : SM :=
  sSeq (sIf (bOf (eBin gtD (eV 0) (eC (.int 6)))) (sSeq (sBad) (sNx)) (sNx)) (sSeq (sRet (eCall 2 (f_all_words) (aCons (eC (.int 2)) (aCons (eV 0) (aNil))))) (sNx))
def f_points : List D → Rs := runF 1 b_points
theorem ok_points {f : Addr} {fd : FuncData} (B : Blt mg) (F : Fun K "points" "points" s_points f fd) (h_all_words : Cal P w K mg base CX0 "all_words" ["size", "many"] 1 (spD0 K 2 (f_all_words))) (g_MOST_UNKNOWNS : ∃ t, mg "MOST_UNKNOWNS" = some (.int 6 t)) : FnOk P w K mg base CX0 2 f fd ["many"] (spD0 K 1 f_points) := by
  refine ok_D0 (k := 1) (N := ["many"]) F sc_points fun cdv A outer s H E hr => ?_
  have hu := hr.units
  have nd := sc_points.nd
  exact (ds_cons (ds_if (dt_cmp od_gt (de_v 0) (dl_e (de_gint g_MOST_UNKNOWNS)) (nomark _)) (ds_cons ds_bad ds_nil) ds_nil) (ds_cons (ds_ret (de_fn h_all_words (hr.mono (by decide)) (da_cons de_int (da_cons (de_v 0) da_nil)))) ds_nil))
/-! ### longer -/
abbrev s_longer : Stmt := topS 10
theorem sc_longer : FnScope ["many", "rows", "start", "found", "lead", "tail", "row", "k"] ["many", "rows"] (defScope s_longer) := ⟨rfl, rfl, rfl, by decide +kernel, rfl, by decide +kernel, by decide +kernel⟩
def b_longer : SM :=
  sSeq (sSet 2 (eIf (bOf (eBin gtD (eB lenD (aCons (eV 1) (aNil))) (eC (.int 0)))) (eBin addD (eB maxX (aCons (eFz (eComp [6] (iA (eV 1)) (gN 6) (bYes) (eIx (eFz (eComp [7] (iR1 (aCons (eV 0) (aNil))) (gN 7) (bOf (eBin eqD (eIx (eV 6) (eV 7)) (eC (.int 1)))) (eV 7))) (eC (.int 0))))) (aNil))) (eC (.int 1))) (eC (.int 0)))) (sSeq (sOwn 3 (eBind (aNil) fun ds => if small ds.length then eRet ds else fun _ => .bad)) (sSeq (sFor (iR2 (aCons (eV 2) (aCons (eV 0) (aNil)))) (gN 4) (sSeq (sIf (bOf (eB allD (aCons (eFz (eComp [6] (iA (eV 1)) (gN 6) (bYes) (eBin eqD (eIx (eV 6) (eV 4)) (eC (.int 0))))) (aNil)))) (sSeq (sFor (iA (eCall 2 (f_all_words) (aCons (eC (.int 2)) (aCons (eBin subD (eBin subD (eV 0) (eV 4)) (eC (.int 1))) (aNil))))) (gN 5) (sSeq (sExpr (eMut 3 appD (aCons (eBin addD (eV 1) (eTup (aCons (eBin addD (eBin addD (eBin mulD (eTup (aCons (eC (.int 0)) (aNil))) (eV 4)) (eTup (aCons (eC (.int 1)) (aNil)))) (eV 5)) (aNil)))) (aNil)))) (sNx))) (sNx)) (sNx)) (sNx))) (sSeq (sRet (eV 3)) (sNx))))
def f_longer : List D → Rs := runF 8 b_longer
theorem ok_longer {f : Addr} {fd : FuncData} (B : Blt mg) (F : Fun K "longer" "longer" s_longer f fd) (h_all_words : Cal P w K mg base CX0 "all_words" ["size", "many"] 1 (spD0 K 2 (f_all_words))) : FnOk P w K mg base CX0 2 f fd ["many", "rows"] (spD0 K 2 f_longer) := by
  refine ok_D0 (k := 1) (N := ["many", "rows", "start", "found", "lead", "tail", "row", "k"]) F sc_longer fun cdv A outer s H E hr => ?_
  have hu := hr.units
  have nd := sc_longer.nd
  exact (ds_cons (ds_set 2 nd (de_if (dt_cmp od_gt (de_B cd_len (by rfl) B.len bt_len (da_cons (de_v 1) da_nil)) (dl_e de_int) (nomark _)) (de_op od_add (de_B (cd_maxX rfl hu) (by rfl) B.max bt_max (da_cons (de_f (df_comp (own := [("row", 6)]) rfl nd (di_any (de_v 1)) (blkOk_by (by rfl)) (fun _ _ _ _ _ => (dg_name 6 nd rfl (by first | exact Or.inl rfl | exact Or.inr rfl))) (fun _ _ _ _ _ => dts_nil) (fun _ _ _ _ _ => (de_ix hu (de_f (df_comp (own := [("k", 7)]) rfl nd (di_range1 (by rfl) B.range (da_cons (de_v 0) da_nil)) (blkOk_by (by rfl)) (fun _ _ _ _ _ => (dg_name 7 nd rfl (by first | exact Or.inl rfl | exact Or.inr rfl))) (fun _ _ _ _ _ => (dts_one (dt_cmp (od_eq hu) (de_ix hu (de_v 6) (de_v 7)) (dl_e de_int) (nomark _)))) (fun _ _ _ _ _ => (de_v 7)) (by decide))) de_int)) (by decide))) da_nil)) (dl_e de_int)) de_int)) (ds_cons (ds_own 3 nd (df_lst da_nil)) (ds_cons (ds_for PassesOwn.never rfl (di_range2 (by rfl) B.range (da_cons (de_v 2) (da_cons (de_v 0) da_nil))) (dg_name 4 nd rfl (by first | exact Or.inl rfl | exact Or.inr rfl)) (ds_cons (ds_if (dt_val (de_B (cd_all rfl) (by rfl) B.all bt_all (da_cons (de_f (df_comp (own := [("row", 6)]) rfl nd (di_any (de_v 1)) (blkOk_by (by rfl)) (fun _ _ _ _ _ => (dg_name 6 nd rfl (by first | exact Or.inl rfl | exact Or.inr rfl))) (fun _ _ _ _ _ => dts_nil) (fun _ _ _ _ _ => (de_cmp (od_eq hu) (de_ix hu (de_v 6) (de_v 4)) (dl_e de_int) (nomark _))) (by decide))) da_nil))) (ds_cons (ds_for PassesOwn.never rfl (di_any (de_fn h_all_words (hr.mono (by decide)) (da_cons de_int (da_cons (de_op od_sub (de_op od_sub (de_v 0) (dl_e (de_v 4))) (dl_e de_int)) da_nil)))) (dg_name 5 nd rfl (by first | exact Or.inl rfl | exact Or.inr rfl)) (ds_cons (ds_expr (de_mut 3 md_append PySem.F.slot_list_append PySem.F.type_list_append (da_cons (de_op od_add (de_v 1) (dl_e (de_tup (da_cons (de_op od_add (de_op od_add (de_op od_mul (de_tup (da_cons de_int da_nil)) (dl_e (de_v 4))) (dl_e (de_tup (da_cons de_int da_nil)))) (dl_e (de_v 5))) da_nil)))) da_nil))) ds_nil)) ds_nil) ds_nil) ds_nil)) (ds_cons (ds_ret (de_v 3)) ds_nil))))
/-! ### plains -/
abbrev s_plains : Stmt := topS 9
theorem sc_plains : FnScope ["many", "size", "found", "turn", "before", "rows"] ["many", "size"] (defScope s_plains) := ⟨rfl, rfl, rfl, by decide +kernel, rfl, by decide +kernel, by decide +kernel⟩
def b_plains : SM :=
  sSeq (sSet 2 (eLst (aCons (eTup (aNil)) (aNil)))) (sSeq (sFor (iR1 (aCons (eV 1) (aNil))) (gN 3) (sSeq (sDat 2 (eComp2 [4, 5] [5] (iA (eV 2)) (gN 4) (bYes) (iA (eCall 2 (f_longer) (aCons (eV 0) (aCons (eV 4) (aNil))))) (gN 5) (bYes) (eV 5))) (sNx))) (sSeq (sRet (eV 2)) (sNx)))
def f_plains : List D → Rs := runF 6 b_plains
theorem ok_plains {f : Addr} {fd : FuncData} (B : Blt mg) (F : Fun K "plains" "plains" s_plains f fd) (h_longer : Cal P w K mg base CX0 "longer" ["many", "rows"] 2 (spD0 K 2 (f_longer))) : FnOk P w K mg base CX0 3 f fd ["many", "size"] (spD0 K 2 f_plains) := by
  refine ok_D0 (k := 2) (N := ["many", "size", "found", "turn", "before", "rows"]) F sc_plains fun cdv A outer s H E hr => ?_
  have hu := hr.units
  have nd := sc_plains.nd
  exact (ds_cons (ds_set 2 nd (de_lst (da_cons (de_tup da_nil) da_nil))) (ds_cons (ds_for PassesOwn.never rfl (di_range1 (by rfl) B.range (da_cons (de_v 1) da_nil)) (dg_name 3 nd rfl (by first | exact Or.inl rfl | exact Or.inr rfl)) (ds_cons (ds_datLc2 2 (own := [("before", 4), ("rows", 5)]) (vs1 := [5]) rfl nd (di_any (de_v 2)) (blkOk_by (by rfl)) (by decide) (fun _ _ _ _ _ => (dg_name 4 nd rfl (by first | exact Or.inl rfl | exact Or.inr rfl))) (fun _ _ _ _ _ => dts_nil) (fun _ _ _ _ _ => (di_any (de_fn h_longer (hr.mono (by decide)) (da_cons (de_v 0) (da_cons (de_v 4) da_nil))))) (fun _ _ _ _ _ => (dg_name 5 nd rfl (by first | exact Or.inl rfl | exact Or.inr rfl))) (fun _ _ _ _ _ => dts_nil) (fun _ _ _ _ _ => (de_v 5)) (by decide) (by decide) (sw_true rfl rfl rfl (by decide +kernel))) ds_nil)) (ds_cons (ds_ret (de_v 2)) ds_nil)))
/-! ### spans -/
abbrev s_spans : Stmt := topS 11
theorem sc_spans : FnScope ["rows", "many", "found", "row", "one", "k"] ["rows", "many"] (defScope s_spans) := ⟨rfl, rfl, rfl, by decide +kernel, rfl, by decide +kernel, by decide +kernel⟩
def b_spans : SM :=
  sSeq (sSet 2 (eLst (aCons (eBin mulD (eTup (aCons (eC (.int 0)) (aNil))) (eV 1)) (aNil)))) (sSeq (sFor (iA (eV 0)) (gN 3) (sSeq (sSet 2 (eBin addD (eV 2) (eFz (eComp [4] (iA (eV 2)) (gN 4) (bYes) (eB tupleD (aCons (eFz (eComp [5] (iR1 (aCons (eV 1) (aNil))) (gN 5) (bYes) (eBin modD (eBin addD (eIx (eV 4) (eV 5)) (eIx (eV 3) (eV 5))) (eC (.int 2))))) (aNil))))))) (sNx))) (sSeq (sRet (eV 2)) (sNx)))
def f_spans : List D → Rs := runF 6 b_spans
theorem ok_spans {f : Addr} {fd : FuncData} (B : Blt mg) (F : Fun K "spans" "spans" s_spans f fd)  : FnOk P w K mg base CX0 1 f fd ["rows", "many"] (spD0 K 2 f_spans) := by
  refine ok_D0 (k := 0) (N := ["rows", "many", "found", "row", "one", "k"]) F sc_spans fun cdv A outer s H E hr => ?_
  have hu := hr.units
  have nd := sc_spans.nd
  exact (ds_cons (ds_set 2 nd (de_lst (da_cons (de_op od_mul (de_tup (da_cons de_int da_nil)) (dl_e (de_v 1))) da_nil))) (ds_cons (ds_for PassesOwn.never rfl (di_any (de_v 0)) (dg_name 3 nd rfl (by first | exact Or.inl rfl | exact Or.inr rfl)) (ds_cons (ds_set 2 nd (de_op od_add (de_v 2) (dl_e (de_f (df_comp (own := [("one", 4)]) rfl nd (di_any (de_v 2)) (blkOk_by (by rfl)) (fun _ _ _ _ _ => (dg_name 4 nd rfl (by first | exact Or.inl rfl | exact Or.inr rfl))) (fun _ _ _ _ _ => dts_nil) (fun _ _ _ _ _ => (de_Ty cd_tuple (by rfl) B.tuple bt_tuple (da_cons (de_f (df_comp (own := [("k", 5)]) rfl nd (di_range1 (by rfl) B.range (da_cons (de_v 1) da_nil)) (blkOk_by (by rfl)) (fun _ _ _ _ _ => (dg_name 5 nd rfl (by first | exact Or.inl rfl | exact Or.inr rfl))) (fun _ _ _ _ _ => dts_nil) (fun _ _ _ _ _ => (de_op od_mod (de_op od_add (de_ix hu (de_v 4) (de_v 5)) (dl_e (de_ix hu (de_v 3) (de_v 5)))) (dl_e de_int))) (by decide))) da_nil))) (by decide)))))) ds_nil)) (ds_cons (ds_ret (de_v 2)) ds_nil)))
/-! ### flats -/
abbrev s_flats : Stmt := topS 8
theorem sc_flats : FnScope ["many", "size", "every", "found", "rows", "sums", "start", "moved", "lot", "one", "k", "point"] ["many", "size"] (defScope s_flats) := ⟨rfl, rfl, rfl, by decide +kernel, rfl, by decide +kernel, by decide +kernel⟩
def b_flats : SM :=
  sSeq (sSet 2 (eCall 1 (f_points) (aCons (eV 0) (aNil)))) (sSeq (sOwn 3 (eBind (aNil) fun ds => if small ds.length then eRet ds else fun _ => .bad)) (sSeq (sFor (iA (eCall 2 (f_plains) (aCons (eV 0) (aCons (eV 1) (aNil))))) (gN 4) (sSeq (sSet 5 (eCall 2 (f_spans) (aCons (eV 4) (aCons (eV 0) (aNil))))) (sSeq (sFor (iA (eV 2)) (gN 6) (sSeq (sDat 7 (eComp [9] (iA (eV 5)) (gN 9) (bYes) (eB tupleD (aCons (eFz (eComp [10] (iR1 (aCons (eV 0) (aNil))) (gN 10) (bYes) (eBin modD (eBin addD (eIx (eV 6) (eV 10)) (eIx (eV 9) (eV 10))) (eC (.int 2))))) (aNil))))) (sSeq (sSet 8 (eB tupleD (aCons (eFz (eBF sortedX (aCons (eFz (eComp [11] (iA (eV 7)) (gN 11) (bYes) (eIdxG (eV 2) (eV 11)))) (aNil)))) (aNil)))) (sSeq (sIf (bOf (eBin ninD (eV 8) (eVO 3))) (sSeq (sExpr (eMut 3 appD (aCons (eV 8) (aNil)))) (sNx)) (sNx)) (sNx))))) (sNx)))) (sSeq (sRet (eFz (eBFO sortedX 3))) (sNx))))
def f_flats : List D → Rs := runF 12 b_flats
theorem ok_flats {f : Addr} {fd : FuncData} (B : Blt mg) (F : Fun K "flats" "flats" s_flats f fd) (h_plains : Cal P w K mg base CX0 "plains" ["many", "size"] 3 (spD0 K 2 (f_plains))) (h_spans : Cal P w K mg base CX0 "spans" ["rows", "many"] 1 (spD0 K 2 (f_spans))) (h_points : Cal P w K mg base CX0 "points" ["many"] 2 (spD0 K 1 (f_points))) : FnOk P w K mg base CX0 4 f fd ["many", "size"] (spD0 K 2 f_flats) := by
  refine ok_D0 (k := 3) (N := ["many", "size", "every", "found", "rows", "sums", "start", "moved", "lot", "one", "k", "point"]) F sc_flats fun cdv A outer s H E hr => ?_
  have hu := hr.units
  have nd := sc_flats.nd
  exact (ds_cons (ds_set 2 nd (de_fn h_points (hr.mono (by decide)) (da_cons (de_v 0) da_nil))) (ds_cons (ds_own 3 nd (df_lst da_nil)) (ds_cons (ds_for PassesOwn.never rfl (di_any (de_fn h_plains (hr.mono (by decide)) (da_cons (de_v 0) (da_cons (de_v 1) da_nil)))) (dg_name 4 nd rfl (by first | exact Or.inl rfl | exact Or.inr rfl)) (ds_cons (ds_set 5 nd (de_fn h_spans (hr.mono (by decide)) (da_cons (de_v 4) (da_cons (de_v 0) da_nil)))) (ds_cons (ds_for PassesOwn.never rfl (di_any (de_v 2)) (dg_name 6 nd rfl (by first | exact Or.inl rfl | exact Or.inr rfl)) (ds_cons (ds_datLc 7 (own := [("one", 9)]) rfl nd (di_any (de_v 5)) (blkOk_by (by rfl)) (fun _ _ _ _ _ => (dg_name 9 nd rfl (by first | exact Or.inl rfl | exact Or.inr rfl))) (fun _ _ _ _ _ => dts_nil) (fun _ _ _ _ _ => (de_Ty cd_tuple (by rfl) B.tuple bt_tuple (da_cons (de_f (df_comp (own := [("k", 10)]) rfl nd (di_range1 (by rfl) B.range (da_cons (de_v 0) da_nil)) (blkOk_by (by rfl)) (fun _ _ _ _ _ => (dg_name 10 nd rfl (by first | exact Or.inl rfl | exact Or.inr rfl))) (fun _ _ _ _ _ => dts_nil) (fun _ _ _ _ _ => (de_op od_mod (de_op od_add (de_ix hu (de_v 6) (de_v 10)) (dl_e (de_ix hu (de_v 9) (de_v 10)))) (dl_e de_int))) (by decide))) da_nil))) (by decide) (sw_true rfl rfl rfl (by decide +kernel))) (ds_cons (ds_set 8 nd (de_Ty cd_tuple (by rfl) B.tuple bt_tuple (da_cons (de_f (df_B (cf_sortedX hu) (by rfl) B.sorted bt_sorted (da_cons (de_f (df_comp (own := [("point", 11)]) rfl nd (di_any (de_v 7)) (blkOk_by (by rfl)) (fun _ _ _ _ _ => (dg_name 11 nd rfl (by first | exact Or.inl rfl | exact Or.inr rfl))) (fun _ _ _ _ _ => dts_nil) (fun _ _ _ _ _ => (de_indexG (units65 hr) (de_v 2) (de_v 11))) (by decide))) da_nil))) da_nil))) (ds_cons (ds_if (dt_cmp (od_nin hu) (de_v 8) (dl_o 3) (by rfl)) (ds_cons (ds_expr (de_mut 3 md_append PySem.F.slot_list_append PySem.F.type_list_append (da_cons (de_v 8) da_nil))) ds_nil) ds_nil) ds_nil)))) ds_nil))) (ds_cons (ds_ret (de_f (df_BO 3 (cf_sortedX hu) (by rfl) B.sorted bt_sorted))) ds_nil))))
/-! ### transform -/
abbrev s_transform : Stmt := topS 12
theorem sc_transform : FnScope ["word", "found", "step", "ahead", "k", "number"] ["word"] (defScope s_transform) := ⟨rfl, rfl, rfl, by decide +kernel, rfl, by decide +kernel, by decide +kernel⟩
def b_transform : SM :=
  sSeq (sPar 1 2 (aCons (eFz (eComp [5] (iA (eV 0)) (gN 5) (bYes) (eBin subD (eC (.int 1)) (eBin mulD (eC (.int 2)) (eV 5))))) (aCons (eC (.int 1)) (aNil)))) (sSeq (sWhile 1000000 (bOf (eBin ltD (eV 2) (eB lenD (aCons (eV 1) (aNil))))) (sSeq (sOwn 3 (eBF listD (aCons (eV 1) (aNil)))) (sSeq (sFor (iR1 (aCons (eB lenD (aCons (eV 1) (aNil))) (aNil))) (gN 4) (sSeq (sIf (bOf (eBin eqD (eBin modD (eBin fdivD (eV 4) (eV 2)) (eC (.int 2))) (eC (.int 0)))) (sSeq (sAsg (eTup (aCons (eBin addD (eIx (eV 1) (eV 4)) (eIx (eV 1) (eBin addD (eV 4) (eV 2)))) (aCons (eBin subD (eIx (eV 1) (eV 4)) (eIx (eV 1) (eBin addD (eV 4) (eV 2)))) (aNil)))) (gT (gsCons (gSubO 3 (eV 4)) (gsCons (gSubO 3 (eBin addD (eV 4) (eV 2))) (gsNil))) 2)) (sNx)) (sNx)) (sNx))) (sSeq (sPar 1 2 (aCons (eV 3) (aCons (eBin mulD (eV 2) (eC (.int 2))) (aNil)))) (sNx))))) (sSeq (sRet (eV 1)) (sNx)))
def f_transform : List D → Rs := runF 6 b_transform
theorem ok_transform {f : Addr} {fd : FuncData} (B : Blt mg) (F : Fun K "transform" "transform" s_transform f fd)  : FnOk P w K mg base CX0 1 f fd ["word"] (spD0 K 1 f_transform) := by
  refine ok_D0 (k := 0) (N := ["word", "found", "step", "ahead", "k", "number"]) F sc_transform fun cdv A outer s H E hr => ?_
  have hu := hr.units
  have nd := sc_transform.nd
  exact (ds_cons (ds_par 1 2 rfl nd (da_cons (de_f (df_comp (own := [("number", 5)]) rfl nd (di_any (de_v 0)) (blkOk_by (by rfl)) (fun _ _ _ _ _ => (dg_name 5 nd rfl (by first | exact Or.inl rfl | exact Or.inr rfl))) (fun _ _ _ _ _ => dts_nil) (fun _ _ _ _ _ => (de_op od_sub de_int (dl_e (de_op od_mul de_int (dl_e (de_v 5)))))) (by decide))) (da_cons de_int da_nil)) (by decide)) (ds_cons (ds_while 1000000 PassesOwn.never (dt_cmp od_lt (de_v 2) (dl_e (de_B cd_len (by rfl) B.len bt_len (da_cons (de_v 1) da_nil))) (nomark _)) (ds_cons (ds_own 3 nd (df_Ty cf_list (by rfl) B.list bt_list (da_cons (de_v 1) da_nil))) (ds_cons (ds_for PassesOwn.never rfl (di_range1 (by rfl) B.range (da_cons (de_B cd_len (by rfl) B.len bt_len (da_cons (de_v 1) da_nil)) da_nil)) (dg_name 4 nd rfl (by first | exact Or.inl rfl | exact Or.inr rfl)) (ds_cons (ds_if (dt_cmp (od_eq hu) (de_op od_mod (de_op od_fdiv (de_v 4) (dl_e (de_v 2))) (dl_e de_int)) (dl_e de_int) (nomark _)) (ds_cons (ds_asg (de_tup (da_cons (de_op od_add (de_ix hu (de_v 1) (de_v 4)) (dl_e (de_ix hu (de_v 1) (de_op od_add (de_v 4) (dl_e (de_v 2)))))) (da_cons (de_op od_sub (de_ix hu (de_v 1) (de_v 4)) (dl_e (de_ix hu (de_v 1) (de_op od_add (de_v 4) (dl_e (de_v 2)))))) da_nil))) (dg_tup rfl (dgs_cons (dg_sub hu 3 (de_v 4)) (dgs_cons (dg_sub hu 3 (de_op od_add (de_v 4) (dl_e (de_v 2)))) dgs_nil)))) ds_nil) ds_nil) ds_nil)) (ds_cons (ds_par 1 2 rfl nd (da_cons (de_v 3) (da_cons (de_op od_mul (de_v 2) (dl_e de_int)) da_nil)) (by decide)) ds_nil)))) (ds_cons (ds_ret (de_v 1)) ds_nil)))
/-! ### nearest_sums -/
abbrev s_nearest_sums : Stmt := topS 13
theorem sc_nearest_sums : FnScope ["many", "word", "told", "best", "found", "mask", "number"] ["many", "word"] (defScope s_nearest_sums) := ⟨rfl, rfl, rfl, by decide +kernel, rfl, by decide +kernel, by decide +kernel⟩
def b_nearest_sums : SM :=
  sSeq (sSet 2 (eCall 1 (f_transform) (aCons (eV 1) (aNil)))) (sSeq (sSet 3 (eB maxX (aCons (eFz (eComp [6] (iA (eV 2)) (gN 6) (bYes) (eB absD (aCons (eV 6) (aNil))))) (aNil)))) (sSeq (sOwn 4 (eBind (aNil) fun ds => if small ds.length then eRet ds else fun _ => .bad)) (sSeq (sFor (iR1 (aCons (eB lenD (aCons (eV 2) (aNil))) (aNil))) (gN 5) (sSeq (sIf (bOf (eBin eqD (eB absD (aCons (eIx (eV 2) (eV 5)) (aNil))) (eV 3))) (sSeq (sExpr (eMut 4 extD (aCons (eIf (bOf (eBin eqD (eIx (eV 2) (eV 5)) (eV 3))) (eLst (aCons (eTup (aCons (eV 5) (aCons (eC (.int 0)) (aNil)))) (aNil))) (eLst (aNil))) (aNil)))) (sSeq (sExpr (eMut 4 extD (aCons (eIf (bOf (eBin eqD (eIx (eV 2) (eV 5)) (eBin subD (eC (.int 0)) (eV 3)))) (eLst (aCons (eTup (aCons (eV 5) (aCons (eC (.int 1)) (aNil)))) (aNil))) (eLst (aNil))) (aNil)))) (sNx))) (sNx)) (sNx))) (sSeq (sRet (eV 4)) (sNx)))))
def f_nearest_sums : List D → Rs := runF 7 b_nearest_sums
theorem ok_nearest_sums {f : Addr} {fd : FuncData} (B : Blt mg) (F : Fun K "nearest_sums" "nearest_sums" s_nearest_sums f fd) (h_transform : Cal P w K mg base CX0 "transform" ["word"] 1 (spD0 K 1 (f_transform))) : FnOk P w K mg base CX0 2 f fd ["many", "word"] (spD0 K 2 f_nearest_sums) := by
  refine ok_D0 (k := 1) (N := ["many", "word", "told", "best", "found", "mask", "number"]) F sc_nearest_sums fun cdv A outer s H E hr => ?_
  have hu := hr.units
  have nd := sc_nearest_sums.nd
  exact (ds_cons (ds_set 2 nd (de_fn h_transform (hr.mono (by decide)) (da_cons (de_v 1) da_nil))) (ds_cons (ds_set 3 nd (de_B (cd_maxX rfl hu) (by rfl) B.max bt_max (da_cons (de_f (df_comp (own := [("number", 6)]) rfl nd (di_any (de_v 2)) (blkOk_by (by rfl)) (fun _ _ _ _ _ => (dg_name 6 nd rfl (by first | exact Or.inl rfl | exact Or.inr rfl))) (fun _ _ _ _ _ => dts_nil) (fun _ _ _ _ _ => (de_B cd_abs (by rfl) B.abs bt_abs (da_cons (de_v 6) da_nil))) (by decide))) da_nil))) (ds_cons (ds_own 4 nd (df_lst da_nil)) (ds_cons (ds_for PassesOwn.never rfl (di_range1 (by rfl) B.range (da_cons (de_B cd_len (by rfl) B.len bt_len (da_cons (de_v 2) da_nil)) da_nil)) (dg_name 5 nd rfl (by first | exact Or.inl rfl | exact Or.inr rfl)) (ds_cons (ds_if (dt_cmp (od_eq hu) (de_B cd_abs (by rfl) B.abs bt_abs (da_cons (de_ix hu (de_v 2) (de_v 5)) da_nil)) (dl_e (de_v 3)) (nomark _)) (ds_cons (ds_expr (de_ext 4 (da_cons (de_if (dt_cmp (od_eq hu) (de_ix hu (de_v 2) (de_v 5)) (dl_e (de_v 3)) (nomark _)) (de_lst (da_cons (de_tup (da_cons (de_v 5) (da_cons de_int da_nil))) da_nil)) (de_lst da_nil)) da_nil))) (ds_cons (ds_expr (de_ext 4 (da_cons (de_if (dt_cmp (od_eq hu) (de_ix hu (de_v 2) (de_v 5)) (dl_e (de_op od_sub de_int (dl_e (de_v 3)))) (nomark _)) (de_lst (da_cons (de_tup (da_cons (de_v 5) (da_cons de_int da_nil))) da_nil)) (de_lst da_nil)) da_nil))) ds_nil)) ds_nil) ds_nil)) (ds_cons (ds_ret (de_v 4)) ds_nil)))))
/-! ### is_bent -/
abbrev s_is_bent : Stmt := topS 14
theorem sc_is_bent : FnScope ["word", "number"] ["word"] (defScope s_is_bent) := ⟨rfl, rfl, rfl, by decide +kernel, rfl, by decide +kernel, by decide +kernel⟩
def b_is_bent : SM :=
  sSeq (sRet (eAnd (eBin gtD (eB lenD (aCons (eV 0) (aNil))) (eC (.int 1))) (eBin eqD (eUn lenSetD (eFz (eComp [1] (iA (eCall 1 (f_transform) (aCons (eV 0) (aNil)))) (gN 1) (bYes) (eB absD (aCons (eV 1) (aNil)))))) (eC (.int 1))))) (sNx)
def f_is_bent : List D → Rs := runF 2 b_is_bent
theorem ok_is_bent {f : Addr} {fd : FuncData} (B : Blt mg) (F : Fun K "is_bent" "is_bent" s_is_bent f fd) (h_transform : Cal P w K mg base CX0 "transform" ["word"] 1 (spD0 K 1 (f_transform))) : FnOk P w K mg base CX0 2 f fd ["word"] (spD0 K 1 f_is_bent) := by
  refine ok_D0 (k := 1) (N := ["word", "number"]) F sc_is_bent fun cdv A outer s H E hr => ?_
  have hu := hr.units
  have nd := sc_is_bent.nd
  exact (ds_cons (ds_ret (de_and (de_cmp od_gt (de_B cd_len (by rfl) B.len bt_len (da_cons (de_v 0) da_nil)) (dl_e de_int) (nomark _)) (de_one (de_cmp (od_eq hu) (de_lenSet (by rfl) B.len (by rfl) B.set (de_f (df_comp (own := [("number", 1)]) rfl nd (di_any (de_fn h_transform (hr.mono (by decide)) (da_cons (de_v 0) da_nil))) (blkOk_by (by rfl)) (fun _ _ _ _ _ => (dg_name 1 nd rfl (by first | exact Or.inl rfl | exact Or.inr rfl))) (fun _ _ _ _ _ => dts_nil) (fun _ _ _ _ _ => (de_B cd_abs (by rfl) B.abs bt_abs (da_cons (de_v 1) da_nil))) (by decide)))) (dl_e de_int) (nomark _))))) ds_nil)
/-! ### _law_state -/
abbrev s__law_state : Stmt := topS 16
theorem sc__law_state : FnScope ["script", "cells", "cell"] ["script"] (defScope s__law_state) := ⟨rfl, rfl, rfl, by decide +kernel, rfl, by decide +kernel, by decide +kernel⟩
theorem ok__law_state {f : Addr} {fd : FuncData} (B : Blt mg) (F : Fun K "_law_state" "_law_state" s__law_state f fd) : FnOk P w K mg base CX0 1 f fd ["script"] (spSt K) := by
  refine F.ok (k := 0) sc__law_state (fun vs H Q E h => ?_) (fun cdv A outer s H vs Q E hr h => ?_)
  · obtain ⟨a, ns, rfl, _⟩ := h
    rfl
  · obtain ⟨a, ns, rfl, hS, hlen, q⟩ := h
    have hu := hr.units
    have nd := sc__law_state.nd
    have hrest : ∀ X : Cx, X = (cxOf CX0 P w K mg base ["script", "cells", "cell"] "_law_state" (defScope s__law_state) f cdv A outer s H E).nox → DSs X W0 (defBody s__law_state).tail stRest := fun X e => by
      subst e
      exact (ds_cons (ds_if (dt_cmp (od_eq hu) (de_B cd_len (by rfl) B.len bt_len (da_cons (de_v 1) da_nil)) (dl_e de_int) (nomark _)) (ds_cons (ds_set 1 nd (de_lst (da_cons de_int da_nil))) ds_nil) ds_nil)
        (ds_cons (ds_ret (de_lst (da_cons de_int (da_cons (de_v 1) da_nil)))) ds_nil))
    refine ⟨_, pss_cons (ps_setLc (own := [("cell", 2)]) (i := 1) rfl nd rfl rfl (sw_true rfl rfl rfl (by decide +kernel)) (pi_list (pe_slice sl_list (pv 0) po_none (po_some pe_int))) (blkOk_by (by rfl)) (fun _ _ _ _ _ => pg_name (i := 2) nd rfl (by first | exact Or.inl rfl | exact Or.inr rfl)) (fun _ _ _ _ _ => pts_nil)
      (fun _ _ _ _ _ => pe_callB call_abs (by rfl) B.abs bt_abs (pa_cons (pv 2) pa_nil))) (hrest _ rfl), ?_⟩
    exact state_all hS hlen q
/-! ### _law_take -/
abbrev s__law_take : Stmt := topS 17
theorem sc__law_take : FnScope ["state", "most", "cells", "at", "cell", "mixed"] ["state", "most"] (defScope s__law_take) := ⟨rfl, rfl, rfl, by decide +kernel, rfl, by decide +kernel, by decide +kernel⟩
abbrev f__law_take := takeW
theorem ok__law_take {f : Addr} {fd : FuncData} (B : Blt mg) (F : Fun K "_law_take" "_law_take" s__law_take f fd) : FnOk P w K mg base CX0 1 f fd ["state", "most"] (spW K 2 takeW) := by
  refine F.ok (k := 0) sc__law_take (fun vs H Q E h => ?_) (fun cdv A outer s H vs Q E hr h => ?_)
  · obtain ⟨a, k, ns, vs', ds, Z, F, rfl, hl, r, _⟩ := h
    rw [List.length_cons, r.length]
    exact hl
  · obtain ⟨a, k, ns, vs', ds, Z, F, rfl, hl, r, h, q⟩ := h
    have nd := sc__law_take.nd
    obtain ⟨b, e1, _, ha, hb⟩ := h.one
    have e1' : F = [a, b] := e1
    subst e1'
    obtain ⟨m, rfl⟩ := takeW_int (fun e => by rw [e] at q; exact q)
    cases r with | cons r1 r2 =>
    cases r1
    cases r2
    unfold takeW at q
    dsimp only at q
    rcases heq : takeL k ns m with _ | ⟨r1, k', ns'⟩
    · rw [heq] at q
      exact q.elim
    rw [heq] at q
    dsimp only at q
    · refine ⟨_, pss_cons (ps_if (pt_cmpR op_lt (pv 1) pe_int (nomark _)) (pss_one (ps_ret pe_int)) pss_nil)
        (pss_cons (ps_set (i := 2) nd rfl (.inl rfl) (pe_ix ix_list (pv 0) pe_int (fun _ _ => rfl)))
        (pss_cons (ps_set (i := 3) nd rfl (.inl rfl) (pe_op op_mod (pe_callTy call_int1 (by rfl) B.int bt_int (pa_cons (pe_ix ix_list (pv 0) pe_int (fun _ _ => rfl)) pa_nil)) (pe_callB call_len_seq (by rfl) B.len bt_len (pa_cons (pv 2) pa_nil))))
        (pss_cons (ps_set (i := 4) nd rfl (.inl rfl) (pe_ix ix_list (pv 2) (pv 3) (fun _ _ => rfl)))
        (pss_cons (ps_if (pt_cmpR op_ge (pv 4) pe_int (nomark _))
          (pss_cons (ps_asg (pe_op op_fdivW (pv 4) (pv 1)) (pg_sub (pv 2) (pv 3) set_list))
          (pss_one (ps_ret (pe_op op_mod (pe_callTy call_int1 (by rfl) B.int bt_int (pa_cons (pv 4) pa_nil)) (pv 1))))) pss_nil)
        (pss_cons (ps_asg (pe_op op_add (pe_ix ix_list (pv 0) pe_int (fun _ _ => rfl)) pe_int) (pg_sub (pv 0) pe_int set_list))
        (pss_cons (ps_set (i := 5) nd rfl (.inl rfl) (pe_op op_mod (pe_callTy call_int1 (by rfl) B.int bt_int (pa_cons (pe_op op_add (pe_op op_mul (pv 4) pe_int) (pe_op op_mul (pe_ix ix_list (pv 0) pe_int (fun _ _ => rfl)) pe_int)) pa_nil)) pe_int))
        (pss_cons (ps_set (i := 5) nd rfl (.inl rfl) (pe_op op_mod (pe_callTy call_int1 (by rfl) B.int bt_int (pa_cons (pe_op op_add (pe_op op_mul (pv 5) pe_int) (pe_op op_mul (pe_ix ix_list (pv 0) pe_int (fun _ _ => rfl)) pe_int)) pa_nil)) pe_int))
        (pss_one (ps_ret (pe_op op_mod (pe_callTy call_int1 (by rfl) B.int bt_int (pa_cons (pe_op op_fdiv (pv 5) pe_int) pa_nil)) (pv 1))))))))))), ?_⟩
      refine ⟨_, rfl, m, 2, rfl, rfl, _, rfl, ?_⟩
      unfold takeL at heq
      by_cases h2 : m < 2
      · rw [if_pos h2] at heq
        cases heq
        rw [decide_eq_true h2]
        refine iteT ?_
        exact q ⟨Z, H, [a, b]⟩ _ (Stp.refl _) h (.int 0)
      · rw [if_neg h2] at heq
        rw [decide_eq_false h2]
        refine iteF ?_
        · split at heq
          rotate_left
          · cases heq
          · rename_i hpos
            obtain ⟨cell, ec, heq⟩ := Option.bind_eq_some_iff.mp heq
            have hlp : (0 : Int) < ns.length := by omega
            refine ⟨.ref a, rfl, a, _, 1, .ref b, rfl, rfl, SqL.of ha, rfl, ?_⟩
            refine ⟨.ref a, rfl, a, _, 0, .int k, rfl, rfl, SqL.of ha, rfl, .inl ⟨k, rfl, ?_⟩⟩
            refine ⟨.ref b, rfl, b, _, rfl, .inl (SqL.of hb), k, (ns.length : Int), rfl, by rw [List.length_map], hlp, ?_⟩
            have am := Int.emod_nonneg k (show (ns.length : Int) ≠ 0 by omega)
            have eat : ((k % (ns.length : Int)).toNat : Int) = k % (ns.length : Int) := Int.toNat_of_nonneg am
            have egt : (ns.map V.int)[(k % (ns.length : Int)).toNat]? = some (.int cell) := by
              rw [List.getElem?_map, ec]
              rfl
            have hlt : (k % (ns.length : Int)).toNat < ns.length := by
              rcases Nat.lt_or_ge (k % (ns.length : Int)).toNat ns.length with z | z
              · exact z
              · rw [List.getElem?_eq_none z] at ec
                cases ec
            refine ⟨.ref b, rfl, _, rfl, b, _, _, .int cell, rfl, rfl, SqL.of hb, by rw [← eat]; exact atI_nat egt, ?_⟩
            refine ⟨_, rfl, cell, _, rfl, rfl, _, rfl, ?_⟩
            by_cases hc : 1000000000000000000 ≤ cell
            · rw [if_pos hc] at heq
              rw [decide_eq_true hc]
              refine iteT ?_
              split at heq
              · rename_i hm
                cases heq
                have hm0 : (0 : Int) < m := by omega
                refine ⟨_, rfl, _, rfl, cell, m, rfl, rfl, wide_div hm0 (b := 200) (by
                  obtain ⟨n, rfl⟩ := Int.eq_ofNat_of_zero_le (Int.le_of_lt hm0)
                  show n < 2 ^ 200
                  exact_mod_cast hm) (by decide) (by decide), ?_⟩
                refine ⟨.ref b, rfl, _, rfl, b, _, _, (k % (ns.length : Int)).toNat, rfl, rfl, hb, ?_, ?_⟩
                · rw [← eat, List.length_map]
                  unfold ixN
                  rw [if_pos (Int.natCast_nonneg _), if_pos (by omega)]
                · refine ⟨_, rfl, .inl ⟨cell, rfl, ?_⟩⟩
                  refine ⟨_, rfl, cell, m, rfl, rfl, hm0, ?_⟩
                  obtain ⟨st, hh⟩ := take_set1 (ns' := ns.set (k % (ns.length : Int)).toNat (cell / m)) h ha hb
                  rw [List.map_set] at st hh
                  exact q _ _ st hh (.int _)
              · cases heq
            · rw [if_neg hc] at heq
              rw [decide_eq_false hc]
              refine iteF ?_
              cases heq
              have hm0 : (0 : Int) < m := by omega
              refine ⟨.ref a, rfl, a, _, 0, .int k, rfl, rfl, SqL.of ha, rfl, k, 1, rfl, rfl, ?_⟩
              refine ⟨.ref a, rfl, a, _, 0, 0, rfl, rfl, ha, rfl, ?_⟩
              have ha' : (upd H a (.lst [.int (k + 1), .ref b])) a = some (.lst [.int (k + 1), .ref b]) := upd_same
              refine ⟨_, rfl, cell, 48271, rfl, rfl, .inr (by decide), ?_⟩
              refine ⟨.ref a, rfl, _, _, _, _, rfl, rfl, SqL.of ha', rfl, _, 69621, rfl, rfl, .inr (by decide), _, _, rfl, rfl, .inl ⟨_, rfl, _, 2147483647, rfl, rfl, (by decide : (0 : Int) < 2147483647), ?_⟩⟩
              refine ⟨_, rfl, _, 16807, rfl, rfl, .inr (by decide), ?_⟩
              refine ⟨.ref a, rfl, _, _, _, _, rfl, rfl, SqL.of ha', rfl, _, 7919, rfl, rfl, .inr (by decide), _, _, rfl, rfl, .inl ⟨_, rfl, _, 1000000007, rfl, rfl, (by decide : (0 : Int) < 1000000007), ?_⟩⟩
              refine ⟨_, rfl, _, 7, rfl, rfl, ⟨(by decide : (0 : Int) < 7), (by decide : (7 : Int) < 1073741824)⟩, .inl ⟨_, rfl, _, rfl, _, m, rfl, rfl, hm0, ?_⟩⟩
              obtain ⟨st, hh⟩ := take_set0 (k' := k + 1) h ha hb
              exact q _ _ st hh (.int _)
/-! ### _law_pick -/
abbrev s__law_pick : Stmt := topS 18
theorem sc__law_pick : FnScope ["state", "row"] ["state", "row"] (defScope s__law_pick) := ⟨rfl, rfl, rfl, by decide +kernel, rfl, by decide +kernel, by decide +kernel⟩
def b__law_pick : SM :=
  sSeq (sRet (eIx (eV 1) (eCallW 0 2 f__law_take (aCons (eB lenD (aCons (eV 1) (aNil))) (aNil))))) (sNx)
def f__law_pick : Addr → Int → List Int → List D → Rw := runW 2 b__law_pick
theorem ok__law_pick {f : Addr} {fd : FuncData} (B : Blt mg) (F : Fun K "_law_pick" "_law_pick" s__law_pick f fd) (h__law_take : Cal P w K mg base CX0 "_law_take" ["state", "most"] 1 (spW K 2 f__law_take)) : FnOk P w K mg base CX0 2 f fd ["state", "row"] (spW K 2 f__law_pick) := by
  refine ok_W (k := 1) (N := ["state", "row"]) F sc__law_pick (by decide) fun cdv A outer s H E hr => ?_
  have hu := hr.units
  have nd := sc__law_pick.nd
  exact (ds_cons (ds_ret (de_ix hu (de_v 1) (de_fnW 0 h__law_take (hr.mono (by decide)) (da_cons (de_B cd_len (by rfl) B.len bt_len (da_cons (de_v 1) da_nil)) da_nil)))) ds_nil)
/-! ### _law_digits -/
abbrev s__law_digits : Stmt := topS 19
theorem sc__law_digits : FnScope ["number", "base", "many", "found", "turn"] ["number", "base", "many"] (defScope s__law_digits) := ⟨rfl, rfl, rfl, by decide +kernel, rfl, by decide +kernel, by decide +kernel⟩
def b__law_digits : SM :=
  sSeq (sOwn 3 (eBind (aNil) fun ds => if small ds.length then eRet ds else fun _ => .bad)) (sSeq (sFor (iR1 (aCons (eV 2) (aNil))) (gN 4) (sSeq (sExpr (eMut 3 appD (aCons (eBin modD (eB intD (aCons (eV 0) (aNil))) (eV 1)) (aNil)))) (sSeq (sSet 0 (eBin fdivD (eV 0) (eV 1))) (sNx)))) (sSeq (sRet (eV 3)) (sNx)))
def f__law_digits : List D → Rs := runF 5 b__law_digits
theorem ok__law_digits {f : Addr} {fd : FuncData} (B : Blt mg) (F : Fun K "_law_digits" "_law_digits" s__law_digits f fd)  : FnOk P w K mg base CX0 1 f fd ["number", "base", "many"] (spD0 K 3 f__law_digits) := by
  refine ok_D0 (k := 0) (N := ["number", "base", "many", "found", "turn"]) F sc__law_digits fun cdv A outer s H E hr => ?_
  have hu := hr.units
  have nd := sc__law_digits.nd
  exact (ds_cons (ds_own 3 nd (df_lst da_nil)) (ds_cons (ds_for PassesOwn.never rfl (di_range1 (by rfl) B.range (da_cons (de_v 2) da_nil)) (dg_name 4 nd rfl (by first | exact Or.inl rfl | exact Or.inr rfl)) (ds_cons (ds_expr (de_mut 3 md_append PySem.F.slot_list_append PySem.F.type_list_append (da_cons (de_op od_mod (de_Ty cd_int (by rfl) B.int bt_int (da_cons (de_v 0) da_nil)) (dl_e (de_v 1))) da_nil))) (ds_cons (ds_set 0 nd (de_op od_fdiv (de_v 0) (dl_e (de_v 1)))) ds_nil))) (ds_cons (ds_ret (de_v 3)) ds_nil)))
/-! ### _law_field -/
abbrev s__law_field : Stmt := topS 20
theorem sc__law_field : FnScope ["size", "base", "many", "lead", "sums", "products", "a", "first", "second", "b", "one", "other", "row", "i", "j", "k"] ["size"] (defScope s__law_field) := ⟨rfl, rfl, rfl, by decide +kernel, rfl, by decide +kernel, by decide +kernel⟩
def b__law_field : SM :=
  sSeq (sAsg (eGet2 (eDic (eFzM false (eDisp false [(eC (.int 4), eTup (aCons (eC (.int 2)) (aCons (eC (.int 2)) (aCons (eLst (aCons (eC (.int 1)) (aCons (eC (.int 1)) (aNil)))) (aNil))))), (eC (.int 8), eTup (aCons (eC (.int 2)) (aCons (eC (.int 3)) (aCons (eLst (aCons (eC (.int 1)) (aCons (eC (.int 1)) (aCons (eC (.int 0)) (aNil))))) (aNil))))), (eC (.int 9), eTup (aCons (eC (.int 3)) (aCons (eC (.int 2)) (aCons (eLst (aCons (eC (.int 2)) (aCons (eC (.int 0)) (aNil)))) (aNil))))), (eC (.int 16), eTup (aCons (eC (.int 2)) (aCons (eC (.int 4)) (aCons (eLst (aCons (eC (.int 1)) (aCons (eC (.int 1)) (aCons (eC (.int 0)) (aCons (eC (.int 0)) (aNil)))))) (aNil)))))]))) (eV 0) (eTup (aCons (eV 0) (aCons (eC (.int 1)) (aCons (eLst (aCons (eC (.int 0)) (aNil))) (aNil)))))) (gT (gsCons (gN 1) (gsCons (gN 2) (gsCons (gN 3) (gsNil)))) 3)) (sSeq (sParK 4 5 (vO (eBind (aNil) fun ds => if small ds.length then eRet ds else fun _ => .bad)) (vO (eBind (aNil) fun ds => if small ds.length then eRet ds else fun _ => .bad))) (sSeq (sFor (iR1 (aCons (eV 0) (aNil))) (gN 6) (sSeq (sParK 7 8 (vO (eBind (aNil) fun ds => if small ds.length then eRet ds else fun _ => .bad)) (vO (eBind (aNil) fun ds => if small ds.length then eRet ds else fun _ => .bad))) (sSeq (sFor (iR1 (aCons (eV 0) (aNil))) (gN 9) (sSeq (sAsg (eTup (aCons (eCall 3 (f__law_digits) (aCons (eV 6) (aCons (eV 1) (aCons (eV 2) (aNil))))) (aCons (eCall 3 (f__law_digits) (aCons (eV 9) (aCons (eV 1) (aCons (eV 2) (aNil))))) (aNil)))) (gT (gsCons (gN 10) (gsCons (gN 11) (gsNil))) 2)) (sSeq (sExpr (eMut 7 appD (aCons (eB sumD (aCons (eFz (eComp [15] (iR1 (aCons (eV 2) (aNil))) (gN 15) (bYes) (eBin mulD (eBin modD (eB intD (aCons (eBin addD (eIx (eV 10) (eV 15)) (eIx (eV 11) (eV 15))) (aNil))) (eV 1)) (eIx (eLst (aCons (eC (.int 1)) (aCons (eV 1) (aCons (eBin mulD (eV 1) (eV 1)) (aCons (eBin mulD (eBin mulD (eV 1) (eV 1)) (eV 1)) (aNil)))))) (eV 15))))) (aNil))) (aNil)))) (sSeq (sOwn 12 (eBinF repF (eLst (aCons (eC (.int 0)) (aNil))) (eBin subD (eBin mulD (eC (.int 2)) (eV 2)) (eC (.int 1))))) (sSeq (sFor (iR1 (aCons (eV 2) (aNil))) (gN 13) (sSeq (sFor (iR1 (aCons (eV 2) (aNil))) (gN 14) (sSeq (sSetIx 12 (eBin addD (eIxO 12 (eBin addD (eV 13) (eV 14))) (eBin mulD (eIx (eV 10) (eV 13)) (eIx (eV 11) (eV 14)))) (eBin addD (eV 13) (eV 14))) (sNx))) (sNx))) (sSeq (sFor (iA (eUn revX (eFz (eLr2 (eV 2) (eBin subD (eBin mulD (eC (.int 2)) (eV 2)) (eC (.int 1))))))) (gN 15) (sSeq (sFor (iR1 (aCons (eV 2) (aNil))) (gN 14) (sSeq (sSetIx 12 (eBin addD (eIxO 12 (eBin addD (eBin subD (eV 15) (eV 2)) (eV 14))) (eBin mulD (eIxO 12 (eV 15)) (eIx (eV 3) (eV 14)))) (eBin addD (eBin subD (eV 15) (eV 2)) (eV 14))) (sNx))) (sNx))) (sSeq (sExpr (eMut 8 appD (aCons (eB sumD (aCons (eFz (eComp [15] (iR1 (aCons (eV 2) (aNil))) (gN 15) (bYes) (eBin mulD (eBin modD (eB intD (aCons (eIxO 12 (eV 15)) (aNil))) (eV 1)) (eIx (eLst (aCons (eC (.int 1)) (aCons (eV 1) (aCons (eBin mulD (eV 1) (eV 1)) (aCons (eBin mulD (eBin mulD (eV 1) (eV 1)) (eV 1)) (aNil)))))) (eV 15))))) (aNil))) (aNil)))) (sNx)))))))) (sSeq (sExpr (eMut 4 appD (aCons (eV 7) (aNil)))) (sSeq (sExpr (eMut 5 appD (aCons (eV 8) (aNil)))) (sNx)))))) (sSeq (sRet (eTup (aCons (eV 4) (aCons (eV 5) (aNil))))) (sNx))))
def f__law_field : List D → Rs := runF 16 b__law_field
theorem ok__law_field {f : Addr} {fd : FuncData} (B : Blt mg) (F : Fun K "_law_field" "_law_field" s__law_field f fd) (h__law_digits : Cal P w K mg base CX0 "_law_digits" ["number", "base", "many"] 1 (spD0 K 3 (f__law_digits))) : FnOk P w K mg base CX0 2 f fd ["size"] (spD0 K 1 f__law_field) := by
  refine ok_D0 (k := 1) (N := ["size", "base", "many", "lead", "sums", "products", "a", "first", "second", "b", "one", "other", "row", "i", "j", "k"]) F sc__law_field fun cdv A outer s H E hr => ?_
  have hu := hr.units
  have nd := sc__law_field.nd
  exact (ds_cons (ds_asg (de_get2 hu (de_m (t := false) (dm_disp hu (DPr.cons de_int (de_tup (da_cons de_int (da_cons de_int (da_cons (de_lst (da_cons de_int (da_cons de_int da_nil))) da_nil)))) (DPr.cons de_int (de_tup (da_cons de_int (da_cons de_int (da_cons (de_lst (da_cons de_int (da_cons de_int (da_cons de_int da_nil)))) da_nil)))) (DPr.cons de_int (de_tup (da_cons de_int (da_cons de_int (da_cons (de_lst (da_cons de_int (da_cons de_int da_nil))) da_nil)))) (DPr.cons de_int (de_tup (da_cons de_int (da_cons de_int (da_cons (de_lst (da_cons de_int (da_cons de_int (da_cons de_int (da_cons de_int da_nil))))) da_nil)))) DPr.nil)))))) (de_v 0) (de_tup (da_cons (de_v 0) (da_cons de_int (da_cons (de_lst (da_cons de_int da_nil)) da_nil))))) (dg_tup rfl (dgs_cons (dg_name 1 nd rfl (by first | exact Or.inl rfl | exact Or.inr rfl)) (dgs_cons (dg_name 2 nd rfl (by first | exact Or.inl rfl | exact Or.inr rfl)) (dgs_cons (dg_name 3 nd rfl (by first | exact Or.inl rfl | exact Or.inr rfl)) dgs_nil))))) (ds_cons (ds_parK 4 5 rfl nd (dk_o (df_lst da_nil)) (dk_o (df_lst da_nil)) (by decide)) (ds_cons (ds_for PassesOwn.never rfl (di_range1 (by rfl) B.range (da_cons (de_v 0) da_nil)) (dg_name 6 nd rfl (by first | exact Or.inl rfl | exact Or.inr rfl)) (ds_cons (ds_parK 7 8 rfl nd (dk_o (df_lst da_nil)) (dk_o (df_lst da_nil)) (by decide)) (ds_cons (ds_for PassesOwn.never rfl (di_range1 (by rfl) B.range (da_cons (de_v 0) da_nil)) (dg_name 9 nd rfl (by first | exact Or.inl rfl | exact Or.inr rfl)) (ds_cons (ds_asg (de_tup (da_cons (de_fn h__law_digits (hr.mono (by decide)) (da_cons (de_v 6) (da_cons (de_v 1) (da_cons (de_v 2) da_nil)))) (da_cons (de_fn h__law_digits (hr.mono (by decide)) (da_cons (de_v 9) (da_cons (de_v 1) (da_cons (de_v 2) da_nil)))) da_nil))) (dg_tup rfl (dgs_cons (dg_name 10 nd rfl (by first | exact Or.inl rfl | exact Or.inr rfl)) (dgs_cons (dg_name 11 nd rfl (by first | exact Or.inl rfl | exact Or.inr rfl)) dgs_nil)))) (ds_cons (ds_expr (de_mut 7 md_append PySem.F.slot_list_append PySem.F.type_list_append (da_cons (de_B (cd_sum rfl) (by rfl) B.sum bt_sum (da_cons (de_f (df_comp (own := [("k", 15)]) rfl nd (di_range1 (by rfl) B.range (da_cons (de_v 2) da_nil)) (blkOk_by (by rfl)) (fun _ _ _ _ _ => (dg_name 15 nd rfl (by first | exact Or.inl rfl | exact Or.inr rfl))) (fun _ _ _ _ _ => dts_nil) (fun _ _ _ _ _ => (de_op od_mul (de_op od_mod (de_Ty cd_int (by rfl) B.int bt_int (da_cons (de_op od_add (de_ix hu (de_v 10) (de_v 15)) (dl_e (de_ix hu (de_v 11) (de_v 15)))) da_nil)) (dl_e (de_v 1))) (dl_e (de_ix hu (de_lst (da_cons de_int (da_cons (de_v 1) (da_cons (de_op od_mul (de_v 1) (dl_e (de_v 1))) (da_cons (de_op od_mul (de_op od_mul (de_v 1) (dl_e (de_v 1))) (dl_e (de_v 1))) da_nil))))) (de_v 15))))) (by decide))) da_nil)) da_nil))) (ds_cons (ds_own 12 nd (df_rep (de_lst (da_cons de_int da_nil)) (dl_e (de_op od_sub (de_op od_mul de_int (dl_e (de_v 2))) (dl_e de_int))))) (ds_cons (ds_for PassesOwn.never rfl (di_range1 (by rfl) B.range (da_cons (de_v 2) da_nil)) (dg_name 13 nd rfl (by first | exact Or.inl rfl | exact Or.inr rfl)) (ds_cons (ds_for PassesOwn.never rfl (di_range1 (by rfl) B.range (da_cons (de_v 2) da_nil)) (dg_name 14 nd rfl (by first | exact Or.inl rfl | exact Or.inr rfl)) (ds_cons (ds_setIx hu 12 (de_op od_add (de_ixO hu 12 (de_op od_add (de_v 13) (dl_e (de_v 14)))) (dl_e (de_op od_mul (de_ix hu (de_v 10) (de_v 13)) (dl_e (de_ix hu (de_v 11) (de_v 14)))))) (de_op od_add (de_v 13) (dl_e (de_v 14)))) ds_nil)) ds_nil)) (ds_cons (ds_for PassesOwn.never rfl (di_any (de_revX (dl_e (de_f (df_lrng2 B.list B.range (de_v 2) (de_op od_sub (de_op od_mul de_int (dl_e (de_v 2))) (dl_e de_int))))))) (dg_name 15 nd rfl (by first | exact Or.inl rfl | exact Or.inr rfl)) (ds_cons (ds_for PassesOwn.never rfl (di_range1 (by rfl) B.range (da_cons (de_v 2) da_nil)) (dg_name 14 nd rfl (by first | exact Or.inl rfl | exact Or.inr rfl)) (ds_cons (ds_setIx hu 12 (de_op od_add (de_ixO hu 12 (de_op od_add (de_op od_sub (de_v 15) (dl_e (de_v 2))) (dl_e (de_v 14)))) (dl_e (de_op od_mul (de_ixO hu 12 (de_v 15)) (dl_e (de_ix hu (de_v 3) (de_v 14)))))) (de_op od_add (de_op od_sub (de_v 15) (dl_e (de_v 2))) (dl_e (de_v 14)))) ds_nil)) ds_nil)) (ds_cons (ds_expr (de_mut 8 md_append PySem.F.slot_list_append PySem.F.type_list_append (da_cons (de_B (cd_sum rfl) (by rfl) B.sum bt_sum (da_cons (de_f (df_comp (own := [("k", 15)]) rfl nd (di_range1 (by rfl) B.range (da_cons (de_v 2) da_nil)) (blkOk_by (by rfl)) (fun _ _ _ _ _ => (dg_name 15 nd rfl (by first | exact Or.inl rfl | exact Or.inr rfl))) (fun _ _ _ _ _ => dts_nil) (fun _ _ _ _ _ => (de_op od_mul (de_op od_mod (de_Ty cd_int (by rfl) B.int bt_int (da_cons (de_ixO hu 12 (de_v 15)) da_nil)) (dl_e (de_v 1))) (dl_e (de_ix hu (de_lst (da_cons de_int (da_cons (de_v 1) (da_cons (de_op od_mul (de_v 1) (dl_e (de_v 1))) (da_cons (de_op od_mul (de_op od_mul (de_v 1) (dl_e (de_v 1))) (dl_e (de_v 1))) da_nil))))) (de_v 15))))) (by decide))) da_nil)) da_nil))) ds_nil))))))) (ds_cons (ds_expr (de_mut 4 md_append PySem.F.slot_list_append PySem.F.type_list_append (da_cons (de_v 7) da_nil))) (ds_cons (ds_expr (de_mut 5 md_append PySem.F.slot_list_append PySem.F.type_list_append (da_cons (de_v 8) da_nil))) ds_nil))))) (ds_cons (ds_ret (de_tup (da_cons (de_v 4) (da_cons (de_v 5) da_nil)))) ds_nil))))
/-! ### _law_neg -/
abbrev s__law_neg : Stmt := topS 21
theorem sc__law_neg : FnScope ["field", "one"] ["field", "one"] (defScope s__law_neg) := ⟨rfl, rfl, rfl, by decide +kernel, rfl, by decide +kernel, by decide +kernel⟩
def b__law_neg : SM :=
  sSeq (sRet (eIdx (eIx (eIx (eV 0) (eC (.int 0))) (eV 1)) (eC (.int 0)))) (sNx)
def f__law_neg : List D → Rs := runF 2 b__law_neg
theorem ok__law_neg {f : Addr} {fd : FuncData} (B : Blt mg) (F : Fun K "_law_neg" "_law_neg" s__law_neg f fd)  : FnOk P w K mg base CX0 1 f fd ["field", "one"] (spD0 K 2 f__law_neg) := by
  refine ok_D0 (k := 0) (N := ["field", "one"]) F sc__law_neg fun cdv A outer s H E hr => ?_
  have hu := hr.units
  have nd := sc__law_neg.nd
  exact (ds_cons (ds_ret (de_index (de_ix hu (de_ix hu (de_v 0) de_int) (de_v 1)) de_int)) ds_nil)
/-! ### _law_dot -/
abbrev s__law_dot : Stmt := topS 22
theorem sc__law_dot : FnScope ["field", "one", "other", "found", "k"] ["field", "one", "other"] (defScope s__law_dot) := ⟨rfl, rfl, rfl, by decide +kernel, rfl, by decide +kernel, by decide +kernel⟩
def b__law_dot : SM :=
  sSeq (sSet 3 (eC (.int 0))) (sSeq (sFor (iR1 (aCons (eB lenD (aCons (eV 1) (aNil))) (aNil))) (gN 4) (sSeq (sSet 3 (eIx (eIx (eIx (eV 0) (eC (.int 0))) (eV 3)) (eIx (eIx (eIx (eV 0) (eC (.int 1))) (eIx (eV 1) (eV 4))) (eIx (eV 2) (eV 4))))) (sNx))) (sSeq (sRet (eV 3)) (sNx)))
def f__law_dot : List D → Rs := runF 5 b__law_dot
theorem ok__law_dot {f : Addr} {fd : FuncData} (B : Blt mg) (F : Fun K "_law_dot" "_law_dot" s__law_dot f fd)  : FnOk P w K mg base CX0 1 f fd ["field", "one", "other"] (spD0 K 3 f__law_dot) := by
  refine ok_D0 (k := 0) (N := ["field", "one", "other", "found", "k"]) F sc__law_dot fun cdv A outer s H E hr => ?_
  have hu := hr.units
  have nd := sc__law_dot.nd
  exact (ds_cons (ds_set 3 nd de_int) (ds_cons (ds_for PassesOwn.never rfl (di_range1 (by rfl) B.range (da_cons (de_B cd_len (by rfl) B.len bt_len (da_cons (de_v 1) da_nil)) da_nil)) (dg_name 4 nd rfl (by first | exact Or.inl rfl | exact Or.inr rfl)) (ds_cons (ds_set 3 nd (de_ix hu (de_ix hu (de_ix hu (de_v 0) de_int) (de_v 3)) (de_ix hu (de_ix hu (de_ix hu (de_v 0) de_int) (de_ix hu (de_v 1) (de_v 4))) (de_ix hu (de_v 2) (de_v 4))))) ds_nil)) (ds_cons (ds_ret (de_v 3)) ds_nil)))
/-! ### _law_mix -/
abbrev s__law_mix : Stmt := topS 23
theorem sc__law_mix : FnScope ["field", "rows", "shares", "wide", "found", "k", "j"] ["field", "rows", "shares", "wide"] (defScope s__law_mix) := ⟨rfl, rfl, rfl, by decide +kernel, rfl, by decide +kernel, by decide +kernel⟩
def b__law_mix : SM :=
  sSeq (sSet 4 (eBin mulD (eLst (aCons (eC (.int 0)) (aNil))) (eV 3))) (sSeq (sFor (iR1 (aCons (eB lenD (aCons (eV 1) (aNil))) (aNil))) (gN 5) (sSeq (sSet 4 (eFz (eComp [6] (iR1 (aCons (eV 3) (aNil))) (gN 6) (bYes) (eIx (eIx (eIx (eV 0) (eC (.int 0))) (eIx (eV 4) (eV 6))) (eIx (eIx (eIx (eV 0) (eC (.int 1))) (eIx (eV 2) (eV 5))) (eIx (eIx (eV 1) (eV 5)) (eV 6))))))) (sNx))) (sSeq (sRet (eB tupleD (aCons (eV 4) (aNil)))) (sNx)))
def f__law_mix : List D → Rs := runF 7 b__law_mix
theorem ok__law_mix {f : Addr} {fd : FuncData} (B : Blt mg) (F : Fun K "_law_mix" "_law_mix" s__law_mix f fd)  : FnOk P w K mg base CX0 1 f fd ["field", "rows", "shares", "wide"] (spD0 K 4 f__law_mix) := by
  refine ok_D0 (k := 0) (N := ["field", "rows", "shares", "wide", "found", "k", "j"]) F sc__law_mix fun cdv A outer s H E hr => ?_
  have hu := hr.units
  have nd := sc__law_mix.nd
  exact (ds_cons (ds_set 4 nd (de_op od_mul (de_lst (da_cons de_int da_nil)) (dl_e (de_v 3)))) (ds_cons (ds_for PassesOwn.never rfl (di_range1 (by rfl) B.range (da_cons (de_B cd_len (by rfl) B.len bt_len (da_cons (de_v 1) da_nil)) da_nil)) (dg_name 5 nd rfl (by first | exact Or.inl rfl | exact Or.inr rfl)) (ds_cons (ds_set 4 nd (de_f (df_comp (own := [("j", 6)]) rfl nd (di_range1 (by rfl) B.range (da_cons (de_v 3) da_nil)) (blkOk_by (by rfl)) (fun _ _ _ _ _ => (dg_name 6 nd rfl (by first | exact Or.inl rfl | exact Or.inr rfl))) (fun _ _ _ _ _ => dts_nil) (fun _ _ _ _ _ => (de_ix hu (de_ix hu (de_ix hu (de_v 0) de_int) (de_ix hu (de_v 4) (de_v 6))) (de_ix hu (de_ix hu (de_ix hu (de_v 0) de_int) (de_ix hu (de_v 2) (de_v 5))) (de_ix hu (de_ix hu (de_v 1) (de_v 5)) (de_v 6))))) (by decide)))) ds_nil)) (ds_cons (ds_ret (de_Ty cd_tuple (by rfl) B.tuple bt_tuple (da_cons (de_v 4) da_nil))) ds_nil)))
/-! ### _law_plain -/
abbrev s__law_plain : Stmt := topS 24
theorem sc__law_plain : FnScope ["field", "rows", "left", "found", "column", "ready", "lead", "back", "row", "k", "n", "j"] ["field", "rows"] (defScope s__law_plain) := ⟨rfl, rfl, rfl, by decide +kernel, rfl, by decide +kernel, by decide +kernel⟩
def b__law_plain : SM :=
  sSeq (sParK 2 3 (vO (eComp [8] (iA (eV 1)) (gN 8) (bYes) (eFz (eBF listD (aCons (eV 8) (aNil)))))) (vD (eLst (aNil)))) (sSeq (sFor (iR1 (aCons (eIf (bOf (eBin gtD (eBO lenD 2) (eC (.int 0)))) (eB lenD (aCons (eIxO 2 (eC (.int 0))) (aNil))) (eC (.int 0))) (aNil))) (gN 4) (sSeq (sDat 5 (eComp [9] (iR1 (aCons (eBO lenD 2) (aNil))) (gN 9) (bOf (eBin neD (eIx (eIxO 2 (eV 9)) (eV 4)) (eC (.int 0)))) (eV 9))) (sSeq (sIf (bOf (eBin gtD (eB lenD (aCons (eV 5) (aNil))) (eC (.int 0)))) (sSeq (sSet 6 (eMut 2 popAtD (aCons (eIx (eV 5) (eC (.int 0))) (aNil)))) (sSeq (sSet 7 (eIdx (eIx (eIx (eV 0) (eC (.int 1))) (eIx (eV 6) (eV 4))) (eC (.int 1)))) (sSeq (sSet 6 (eFz (eComp [10] (iA (eV 6)) (gN 10) (bYes) (eIx (eIx (eIx (eV 0) (eC (.int 1))) (eV 7)) (eV 10))))) (sSeq (sOwn 2 (eComp [8] (iA (eV 2)) (gN 8) (bYes) (eFz (eComp [11] (iR1 (aCons (eB lenD (aCons (eV 8) (aNil))) (aNil))) (gN 11) (bYes) (eIx (eIx (eIx (eV 0) (eC (.int 0))) (eIx (eV 8) (eV 11))) (eIx (eIx (eIx (eV 0) (eC (.int 1))) (eCall 2 (f__law_neg) (aCons (eV 0) (aCons (eIx (eV 8) (eV 4)) (aNil))))) (eIx (eV 6) (eV 11)))))))) (sSeq (sSet 3 (eBin addD (eFz (eComp [8] (iA (eV 3)) (gN 8) (bYes) (eFz (eComp [11] (iR1 (aCons (eB lenD (aCons (eV 8) (aNil))) (aNil))) (gN 11) (bYes) (eIx (eIx (eIx (eV 0) (eC (.int 0))) (eIx (eV 8) (eV 11))) (eIx (eIx (eIx (eV 0) (eC (.int 1))) (eCall 2 (f__law_neg) (aCons (eV 0) (aCons (eIx (eV 8) (eV 4)) (aNil))))) (eIx (eV 6) (eV 11)))))))) (eLst (aCons (eV 6) (aNil))))) (sNx)))))) (sNx)) (sNx)))) (sSeq (sRet (eB tupleD (aCons (eFz (eComp [8] (iA (eV 3)) (gN 8) (bYes) (eB tupleD (aCons (eV 8) (aNil))))) (aNil)))) (sNx)))
def f__law_plain : List D → Rs := runF 12 b__law_plain
theorem ok__law_plain {f : Addr} {fd : FuncData} (B : Blt mg) (F : Fun K "_law_plain" "_law_plain" s__law_plain f fd) (h__law_neg : Cal P w K mg base CX0 "_law_neg" ["field", "one"] 1 (spD0 K 2 (f__law_neg))) : FnOk P w K mg base CX0 2 f fd ["field", "rows"] (spD0 K 2 f__law_plain) := by
  refine ok_D0 (k := 1) (N := ["field", "rows", "left", "found", "column", "ready", "lead", "back", "row", "k", "n", "j"]) F sc__law_plain fun cdv A outer s H E hr => ?_
  have hu := hr.units
  have nd := sc__law_plain.nd
  exact (ds_cons (ds_asgK 2 3 rfl nd (dk_o (df_comp (own := [("row", 8)]) rfl nd (di_any (de_v 1)) (blkOk_by (by rfl)) (fun _ _ _ _ _ => (dg_name 8 nd rfl (by first | exact Or.inl rfl | exact Or.inr rfl))) (fun _ _ _ _ _ => dts_nil) (fun _ _ _ _ _ => (de_f (df_Ty cf_list (by rfl) B.list bt_list (da_cons (de_v 8) da_nil)))) (by decide))) (dk_d (de_lst da_nil))) (ds_cons (ds_for PassesOwn.never rfl (di_range1 (by rfl) B.range (da_cons (de_if (dt_cmp od_gt (de_BO 2 cd_len (by rfl) B.len bt_len) (dl_e de_int) (nomark _)) (de_B cd_len (by rfl) B.len bt_len (da_cons (de_ixO hu 2 de_int) da_nil)) de_int) da_nil)) (dg_name 4 nd rfl (by first | exact Or.inl rfl | exact Or.inr rfl)) (ds_cons (ds_datLc 5 (own := [("k", 9)]) rfl nd (di_range1 (by rfl) B.range (da_cons (de_BO 2 cd_len (by rfl) B.len bt_len) da_nil)) (blkOk_by (by rfl)) (fun _ _ _ _ _ => (dg_name 9 nd rfl (by first | exact Or.inl rfl | exact Or.inr rfl))) (fun _ _ _ _ _ => (dts_one (dt_cmp (od_ne hu) (de_ix hu (de_ixO hu 2 (de_v 9)) (de_v 4)) (dl_e de_int) (nomark _)))) (fun _ _ _ _ _ => (de_v 9)) (by decide) (sw_true rfl rfl rfl (by decide +kernel))) (ds_cons (ds_if (dt_cmp od_gt (de_B cd_len (by rfl) B.len bt_len (da_cons (de_v 5) da_nil)) (dl_e de_int) (nomark _)) (ds_cons (ds_set 6 nd (de_mut 2 md_popAt PySem.F.slot_list_pop PySem.F.type_list_pop (da_cons (de_ix hu (de_v 5) de_int) da_nil))) (ds_cons (ds_set 7 nd (de_index (de_ix hu (de_ix hu (de_v 0) de_int) (de_ix hu (de_v 6) (de_v 4))) de_int)) (ds_cons (ds_set 6 nd (de_f (df_comp (own := [("n", 10)]) rfl nd (di_any (de_v 6)) (blkOk_by (by rfl)) (fun _ _ _ _ _ => (dg_name 10 nd rfl (by first | exact Or.inl rfl | exact Or.inr rfl))) (fun _ _ _ _ _ => dts_nil) (fun _ _ _ _ _ => (de_ix hu (de_ix hu (de_ix hu (de_v 0) de_int) (de_v 7)) (de_v 10))) (by decide)))) (ds_cons (ds_own 2 nd (df_comp (own := [("row", 8)]) rfl nd (di_any (de_v 2)) (blkOk_by (by rfl)) (fun _ _ _ _ _ => (dg_name 8 nd rfl (by first | exact Or.inl rfl | exact Or.inr rfl))) (fun _ _ _ _ _ => dts_nil) (fun _ _ _ _ _ => (de_f (df_comp (own := [("j", 11)]) rfl nd (di_range1 (by rfl) B.range (da_cons (de_B cd_len (by rfl) B.len bt_len (da_cons (de_v 8) da_nil)) da_nil)) (blkOk_by (by rfl)) (fun _ _ _ _ _ => (dg_name 11 nd rfl (by first | exact Or.inl rfl | exact Or.inr rfl))) (fun _ _ _ _ _ => dts_nil) (fun _ _ _ _ _ => (de_ix hu (de_ix hu (de_ix hu (de_v 0) de_int) (de_ix hu (de_v 8) (de_v 11))) (de_ix hu (de_ix hu (de_ix hu (de_v 0) de_int) (de_fn h__law_neg (hr.mono (by decide)) (da_cons (de_v 0) (da_cons (de_ix hu (de_v 8) (de_v 4)) da_nil)))) (de_ix hu (de_v 6) (de_v 11))))) (by decide)))) (by decide))) (ds_cons (ds_set 3 nd (de_op od_add (de_f (df_comp (own := [("row", 8)]) rfl nd (di_any (de_v 3)) (blkOk_by (by rfl)) (fun _ _ _ _ _ => (dg_name 8 nd rfl (by first | exact Or.inl rfl | exact Or.inr rfl))) (fun _ _ _ _ _ => dts_nil) (fun _ _ _ _ _ => (de_f (df_comp (own := [("j", 11)]) rfl nd (di_range1 (by rfl) B.range (da_cons (de_B cd_len (by rfl) B.len bt_len (da_cons (de_v 8) da_nil)) da_nil)) (blkOk_by (by rfl)) (fun _ _ _ _ _ => (dg_name 11 nd rfl (by first | exact Or.inl rfl | exact Or.inr rfl))) (fun _ _ _ _ _ => dts_nil) (fun _ _ _ _ _ => (de_ix hu (de_ix hu (de_ix hu (de_v 0) de_int) (de_ix hu (de_v 8) (de_v 11))) (de_ix hu (de_ix hu (de_ix hu (de_v 0) de_int) (de_fn h__law_neg (hr.mono (by decide)) (da_cons (de_v 0) (da_cons (de_ix hu (de_v 8) (de_v 4)) da_nil)))) (de_ix hu (de_v 6) (de_v 11))))) (by decide)))) (by decide))) (dl_e (de_lst (da_cons (de_v 6) da_nil))))) ds_nil))))) ds_nil) ds_nil))) (ds_cons (ds_ret (de_Ty cd_tuple (by rfl) B.tuple bt_tuple (da_cons (de_f (df_comp (own := [("row", 8)]) rfl nd (di_any (de_v 3)) (blkOk_by (by rfl)) (fun _ _ _ _ _ => (dg_name 8 nd rfl (by first | exact Or.inl rfl | exact Or.inr rfl))) (fun _ _ _ _ _ => dts_nil) (fun _ _ _ _ _ => (de_Ty cd_tuple (by rfl) B.tuple bt_tuple (da_cons (de_v 8) da_nil))) (by decide))) da_nil))) ds_nil)))
/-! ### _law_words -/
abbrev s__law_words : Stmt := topS 25
theorem sc__law_words : FnScope ["size", "many", "found", "turn", "longer_v", "word", "n"] ["size", "many"] (defScope s__law_words) := ⟨rfl, rfl, rfl, by decide +kernel, rfl, by decide +kernel, by decide +kernel⟩
def b__law_words : SM :=
  sSeq (sSet 2 (eLst (aCons (eTup (aNil)) (aNil)))) (sSeq (sFor (iR1 (aCons (eV 1) (aNil))) (gN 3) (sSeq (sSet 4 (eLst (aNil))) (sSeq (sFor (iA (eV 2)) (gN 5) (sSeq (sSet 4 (eBin addD (eV 4) (eFz (eComp [6] (iR1 (aCons (eV 0) (aNil))) (gN 6) (bYes) (eBin addD (eV 5) (eTup (aCons (eV 6) (aNil)))))))) (sNx))) (sSeq (sSet 2 (eV 4)) (sNx))))) (sSeq (sRet (eV 2)) (sNx)))
def f__law_words : List D → Rs := runF 7 b__law_words
theorem ok__law_words {f : Addr} {fd : FuncData} (B : Blt mg) (F : Fun K "_law_words" "_law_words" s__law_words f fd)  : FnOk P w K mg base CX0 1 f fd ["size", "many"] (spD0 K 2 f__law_words) := by
  refine ok_D0 (k := 0) (N := ["size", "many", "found", "turn", "longer_v", "word", "n"]) F sc__law_words fun cdv A outer s H E hr => ?_
  have hu := hr.units
  have nd := sc__law_words.nd
  exact (ds_cons (ds_set 2 nd (de_lst (da_cons (de_tup da_nil) da_nil))) (ds_cons (ds_for PassesOwn.never rfl (di_range1 (by rfl) B.range (da_cons (de_v 1) da_nil)) (dg_name 3 nd rfl (by first | exact Or.inl rfl | exact Or.inr rfl)) (ds_cons (ds_set 4 nd (de_lst da_nil)) (ds_cons (ds_for PassesOwn.never rfl (di_any (de_v 2)) (dg_name 5 nd rfl (by first | exact Or.inl rfl | exact Or.inr rfl)) (ds_cons (ds_set 4 nd (de_op od_add (de_v 4) (dl_e (de_f (df_comp (own := [("n", 6)]) rfl nd (di_range1 (by rfl) B.range (da_cons (de_v 0) da_nil)) (blkOk_by (by rfl)) (fun _ _ _ _ _ => (dg_name 6 nd rfl (by first | exact Or.inl rfl | exact Or.inr rfl))) (fun _ _ _ _ _ => dts_nil) (fun _ _ _ _ _ => (de_op od_add (de_v 5) (dl_e (de_tup (da_cons (de_v 6) da_nil))))) (by decide)))))) ds_nil)) (ds_cons (ds_set 2 nd (de_v 4)) ds_nil)))) (ds_cons (ds_ret (de_v 2)) ds_nil)))
/-! ### _law_all -/
abbrev s__law_all : Stmt := topS 26
theorem sc__law_all : FnScope ["field", "code", "message"] ["field", "code"] (defScope s__law_all) := ⟨rfl, rfl, rfl, by decide +kernel, rfl, by decide +kernel, by decide +kernel⟩
def b__law_all : SM :=
  sSeq (sRet (eFz (eComp [2] (iA (eCall 2 (f__law_words) (aCons (eIx (eV 1) (eC (.int 1))) (aCons (eB lenD (aCons (eIx (eV 1) (eC (.int 3))) (aNil))) (aNil))))) (gN 2) (bYes) (eCall 4 (f__law_mix) (aCons (eV 0) (aCons (eIx (eV 1) (eC (.int 3))) (aCons (eV 2) (aCons (eIx (eV 1) (eC (.int 2))) (aNil))))))))) (sNx)
def f__law_all : List D → Rs := runF 3 b__law_all
theorem ok__law_all {f : Addr} {fd : FuncData} (B : Blt mg) (F : Fun K "_law_all" "_law_all" s__law_all f fd) (h__law_words : Cal P w K mg base CX0 "_law_words" ["size", "many"] 1 (spD0 K 2 (f__law_words))) (h__law_mix : Cal P w K mg base CX0 "_law_mix" ["field", "rows", "shares", "wide"] 1 (spD0 K 4 (f__law_mix))) : FnOk P w K mg base CX0 2 f fd ["field", "code"] (spD0 K 2 f__law_all) := by
  refine ok_D0 (k := 1) (N := ["field", "code", "message"]) F sc__law_all fun cdv A outer s H E hr => ?_
  have hu := hr.units
  have nd := sc__law_all.nd
  exact (ds_cons (ds_ret (de_f (df_comp (own := [("message", 2)]) rfl nd (di_any (de_fn h__law_words (hr.mono (by decide)) (da_cons (de_ix hu (de_v 1) de_int) (da_cons (de_B cd_len (by rfl) B.len bt_len (da_cons (de_ix hu (de_v 1) de_int) da_nil)) da_nil)))) (blkOk_by (by rfl)) (fun _ _ _ _ _ => (dg_name 2 nd rfl (by first | exact Or.inl rfl | exact Or.inr rfl))) (fun _ _ _ _ _ => dts_nil) (fun _ _ _ _ _ => (de_fn h__law_mix (hr.mono (by decide)) (da_cons (de_v 0) (da_cons (de_ix hu (de_v 1) de_int) (da_cons (de_v 2) (da_cons (de_ix hu (de_v 1) de_int) da_nil)))))) (by decide)))) ds_nil)
/-! ### _law_code -/
abbrev s__law_code : Stmt := topS 27
theorem sc__law_code : FnScope ["state", "sizes", "most", "limit", "size", "long", "field", "rows", "many", "turn", "k"] ["state", "sizes", "most", "limit"] (defScope s__law_code) := ⟨rfl, rfl, rfl, by decide +kernel, rfl, by decide +kernel, by decide +kernel⟩
def b__law_code : SM :=
  sSeq (sAsg (eTup (aCons (eCallW 0 2 f__law_pick (aCons (eV 1) (aNil))) (aCons (eBin addD (eC (.int 1)) (eCallW 0 2 f__law_take (aCons (eV 2) (aNil)))) (aNil)))) (gT (gsCons (gN 4) (gsCons (gN 5) (gsNil))) 2)) (sSeq (sParK3 6 7 8 (vD (eCall 1 (f__law_field) (aCons (eV 4) (aNil)))) (vO (eBind (aNil) fun ds => if small ds.length then eRet ds else fun _ => .bad)) (vD (eC (.int 1)))) (sSeq (sFor (iR1 (aCons (eCallW 0 2 f__law_take (aCons (eBin addD (eV 5) (eC (.int 1))) (aNil))) (aNil))) (gN 9) (sSeq (sSet 8 (eBin mulD (eV 8) (eV 4))) (sSeq (sIf (bOf (eBin leD (eV 8) (eV 3))) (sSeq (sExpr (eMut 7 appD (aCons (eB tupleD (aCons (eFz (eComp [10] (iR1 (aCons (eV 5) (aNil))) (gN 10) (bYes) (eCallW 0 2 f__law_take (aCons (eV 4) (aNil))))) (aNil))) (aNil)))) (sNx)) (sNx)) (sNx)))) (sSeq (sRet (eTup (aCons (eV 6) (aCons (eTup (aCons (eC (.str "code")) (aCons (eV 4) (aCons (eV 5) (aCons (eCall 2 (f__law_plain) (aCons (eV 6) (aCons (eV 7) (aNil)))) (aNil)))))) (aNil))))) (sNx))))
def f__law_code : Addr → Int → List Int → List D → Rw := runW 11 b__law_code
theorem ok__law_code {f : Addr} {fd : FuncData} (B : Blt mg) (F : Fun K "_law_code" "_law_code" s__law_code f fd) (h__law_plain : Cal P w K mg base CX0 "_law_plain" ["field", "rows"] 2 (spD0 K 2 (f__law_plain))) (h__law_take : Cal P w K mg base CX0 "_law_take" ["state", "most"] 1 (spW K 2 f__law_take)) (h__law_field : Cal P w K mg base CX0 "_law_field" ["size"] 2 (spD0 K 1 (f__law_field))) (h__law_pick : Cal P w K mg base CX0 "_law_pick" ["state", "row"] 2 (spW K 2 f__law_pick)) : FnOk P w K mg base CX0 3 f fd ["state", "sizes", "most", "limit"] (spW K 4 f__law_code) := by
  refine ok_W (k := 2) (N := ["state", "sizes", "most", "limit", "size", "long", "field", "rows", "many", "turn", "k"]) F sc__law_code (by decide) fun cdv A outer s H E hr => ?_
  have hu := hr.units
  have nd := sc__law_code.nd
  exact (ds_cons (ds_asg (de_tup (da_cons (de_fnW 0 h__law_pick (hr.mono (by decide)) (da_cons (de_v 1) da_nil)) (da_cons (de_op od_add de_int (dl_e (de_fnW 0 h__law_take (hr.mono (by decide)) (da_cons (de_v 2) da_nil)))) da_nil))) (dg_tup rfl (dgs_cons (dg_name 4 nd rfl (by first | exact Or.inl rfl | exact Or.inr rfl)) (dgs_cons (dg_name 5 nd rfl (by first | exact Or.inl rfl | exact Or.inr rfl)) dgs_nil)))) (ds_cons (ds_parK3 6 7 8 rfl nd (dk_d (de_fn h__law_field (hr.mono (by decide)) (da_cons (de_v 4) da_nil))) (dk_o (df_lst da_nil)) (dk_d de_int) (by decide) (by decide) (by decide)) (ds_cons (ds_for PassesOwn.never rfl (di_range1 (by rfl) B.range (da_cons (de_fnW 0 h__law_take (hr.mono (by decide)) (da_cons (de_op od_add (de_v 5) (dl_e de_int)) da_nil)) da_nil)) (dg_name 9 nd rfl (by first | exact Or.inl rfl | exact Or.inr rfl)) (ds_cons (ds_set 8 nd (de_op od_mul (de_v 8) (dl_e (de_v 4)))) (ds_cons (ds_if (dt_cmp od_le (de_v 8) (dl_e (de_v 3)) (nomark _)) (ds_cons (ds_expr (de_mut 7 md_append PySem.F.slot_list_append PySem.F.type_list_append (da_cons (de_Ty cd_tuple (by rfl) B.tuple bt_tuple (da_cons (de_f (df_comp (own := [("k", 10)]) rfl nd (di_range1 (by rfl) B.range (da_cons (de_v 5) da_nil)) (blkOk_by (by rfl)) (fun _ _ _ _ _ => (dg_name 10 nd rfl (by first | exact Or.inl rfl | exact Or.inr rfl))) (fun _ _ _ _ _ => dts_nil) (fun _ _ _ _ _ => (de_fnW 0 h__law_take (hr.mono (by decide)) (da_cons (de_v 4) da_nil))) (by decide))) da_nil)) da_nil))) ds_nil) ds_nil) ds_nil))) (ds_cons (ds_ret (de_tup (da_cons (de_v 6) (da_cons (de_tup (da_cons de_str (da_cons (de_v 4) (da_cons (de_v 5) (da_cons (de_fn h__law_plain (hr.mono (by decide)) (da_cons (de_v 6) (da_cons (de_v 7) da_nil))) da_nil))))) da_nil)))) ds_nil))))
/-! ### _law_dual -/
abbrev s__law_dual : Stmt := topS 28
theorem sc__law_dual : FnScope ["field", "code", "places", "found", "free", "row", "k"] ["field", "code"] (defScope s__law_dual) := ⟨rfl, rfl, rfl, by decide +kernel, rfl, by decide +kernel, by decide +kernel⟩
def b__law_dual : SM :=
  sSeq (sSet 2 (eFz (eComp [5] (iA (eIx (eV 1) (eC (.int 3)))) (gN 5) (bYes) (eIx (eFz (eComp [6] (iR1 (aCons (eIx (eV 1) (eC (.int 2))) (aNil))) (gN 6) (bOf (eBin neD (eIx (eV 5) (eV 6)) (eC (.int 0)))) (eV 6))) (eC (.int 0)))))) (sSeq (sOwn 3 (eBind (aNil) fun ds => if small ds.length then eRet ds else fun _ => .bad)) (sSeq (sFor (iA (eFz (eComp [6] (iR1 (aCons (eIx (eV 1) (eC (.int 2))) (aNil))) (gN 6) (bOf (eBin ninD (eV 6) (eV 2))) (eV 6)))) (gN 4) (sSeq (sOwn 5 (eBinF repF (eLst (aCons (eC (.int 0)) (aNil))) (eIx (eV 1) (eC (.int 2))))) (sSeq (sSetIx 5 (eC (.int 1)) (eV 4)) (sSeq (sFor (iR1 (aCons (eB lenD (aCons (eV 2) (aNil))) (aNil))) (gN 6) (sSeq (sSetIx 5 (eCall 2 (f__law_neg) (aCons (eV 0) (aCons (eIx (eIx (eIx (eV 1) (eC (.int 3))) (eV 6)) (eV 4)) (aNil)))) (eIx (eV 2) (eV 6))) (sNx))) (sSeq (sExpr (eMut 3 appD (aCons (eBO tupleD 5) (aNil)))) (sNx)))))) (sSeq (sRet (eTup (aCons (eC (.str "code")) (aCons (eIx (eV 1) (eC (.int 1))) (aCons (eIx (eV 1) (eC (.int 2))) (aCons (eCall 2 (f__law_plain) (aCons (eV 0) (aCons (eV 3) (aNil)))) (aNil))))))) (sNx))))
def f__law_dual : List D → Rs := runF 7 b__law_dual
theorem ok__law_dual {f : Addr} {fd : FuncData} (B : Blt mg) (F : Fun K "_law_dual" "_law_dual" s__law_dual f fd) (h__law_plain : Cal P w K mg base CX0 "_law_plain" ["field", "rows"] 2 (spD0 K 2 (f__law_plain))) (h__law_neg : Cal P w K mg base CX0 "_law_neg" ["field", "one"] 1 (spD0 K 2 (f__law_neg))) : FnOk P w K mg base CX0 3 f fd ["field", "code"] (spD0 K 2 f__law_dual) := by
  refine ok_D0 (k := 2) (N := ["field", "code", "places", "found", "free", "row", "k"]) F sc__law_dual fun cdv A outer s H E hr => ?_
  have hu := hr.units
  have nd := sc__law_dual.nd
  exact (ds_cons (ds_set 2 nd (de_f (df_comp (own := [("row", 5)]) rfl nd (di_any (de_ix hu (de_v 1) de_int)) (blkOk_by (by rfl)) (fun _ _ _ _ _ => (dg_name 5 nd rfl (by first | exact Or.inl rfl | exact Or.inr rfl))) (fun _ _ _ _ _ => dts_nil) (fun _ _ _ _ _ => (de_ix hu (de_f (df_comp (own := [("k", 6)]) rfl nd (di_range1 (by rfl) B.range (da_cons (de_ix hu (de_v 1) de_int) da_nil)) (blkOk_by (by rfl)) (fun _ _ _ _ _ => (dg_name 6 nd rfl (by first | exact Or.inl rfl | exact Or.inr rfl))) (fun _ _ _ _ _ => (dts_one (dt_cmp (od_ne hu) (de_ix hu (de_v 5) (de_v 6)) (dl_e de_int) (nomark _)))) (fun _ _ _ _ _ => (de_v 6)) (by decide))) de_int)) (by decide)))) (ds_cons (ds_own 3 nd (df_lst da_nil)) (ds_cons (ds_for PassesOwn.never rfl (di_any (de_f (df_comp (own := [("k", 6)]) rfl nd (di_range1 (by rfl) B.range (da_cons (de_ix hu (de_v 1) de_int) da_nil)) (blkOk_by (by rfl)) (fun _ _ _ _ _ => (dg_name 6 nd rfl (by first | exact Or.inl rfl | exact Or.inr rfl))) (fun _ _ _ _ _ => (dts_one (dt_cmp (od_nin hu) (de_v 6) (dl_e (de_v 2)) (by rfl)))) (fun _ _ _ _ _ => (de_v 6)) (by decide)))) (dg_name 4 nd rfl (by first | exact Or.inl rfl | exact Or.inr rfl)) (ds_cons (ds_own 5 nd (df_rep (de_lst (da_cons de_int da_nil)) (dl_e (de_ix hu (de_v 1) de_int)))) (ds_cons (ds_setIx hu 5 de_int (de_v 4)) (ds_cons (ds_for PassesOwn.never rfl (di_range1 (by rfl) B.range (da_cons (de_B cd_len (by rfl) B.len bt_len (da_cons (de_v 2) da_nil)) da_nil)) (dg_name 6 nd rfl (by first | exact Or.inl rfl | exact Or.inr rfl)) (ds_cons (ds_setIx hu 5 (de_fn h__law_neg (hr.mono (by decide)) (da_cons (de_v 0) (da_cons (de_ix hu (de_ix hu (de_ix hu (de_v 1) de_int) (de_v 6)) (de_v 4)) da_nil))) (de_ix hu (de_v 2) (de_v 6))) ds_nil)) (ds_cons (ds_expr (de_mut 3 md_append PySem.F.slot_list_append PySem.F.type_list_append (da_cons (de_TyO 5 cd_tuple (by rfl) B.tuple bt_tuple) da_nil))) ds_nil))))) (ds_cons (ds_ret (de_tup (da_cons de_str (da_cons (de_ix hu (de_v 1) de_int) (da_cons (de_ix hu (de_v 1) de_int) (da_cons (de_fn h__law_plain (hr.mono (by decide)) (da_cons (de_v 0) (da_cons (de_v 3) da_nil))) da_nil)))))) ds_nil))))
/-! ### _law_weight -/
abbrev s__law_weight : Stmt := topS 29
theorem sc__law_weight : FnScope ["word", "n"] ["word"] (defScope s__law_weight) := ⟨rfl, rfl, rfl, by decide +kernel, rfl, by decide +kernel, by decide +kernel⟩
def b__law_weight : SM :=
  sSeq (sRet (eB lenD (aCons (eFz (eComp [1] (iA (eV 0)) (gN 1) (bOf (eBin neD (eV 1) (eC (.int 0)))) (eV 1))) (aNil)))) (sNx)
def f__law_weight : List D → Rs := runF 2 b__law_weight
theorem ok__law_weight {f : Addr} {fd : FuncData} (B : Blt mg) (F : Fun K "_law_weight" "_law_weight" s__law_weight f fd)  : FnOk P w K mg base CX0 1 f fd ["word"] (spD0 K 1 f__law_weight) := by
  refine ok_D0 (k := 0) (N := ["word", "n"]) F sc__law_weight fun cdv A outer s H E hr => ?_
  have hu := hr.units
  have nd := sc__law_weight.nd
  exact (ds_cons (ds_ret (de_B cd_len (by rfl) B.len bt_len (da_cons (de_f (df_comp (own := [("n", 1)]) rfl nd (di_any (de_v 0)) (blkOk_by (by rfl)) (fun _ _ _ _ _ => (dg_name 1 nd rfl (by first | exact Or.inl rfl | exact Or.inr rfl))) (fun _ _ _ _ _ => (dts_one (dt_cmp (od_ne hu) (de_v 1) (dl_e de_int) (nomark _)))) (fun _ _ _ _ _ => (de_v 1)) (by decide))) da_nil))) ds_nil)
/-! ### _law_far -/
abbrev s__law_far : Stmt := topS 30
theorem sc__law_far : FnScope ["one", "other", "k"] ["one", "other"] (defScope s__law_far) := ⟨rfl, rfl, rfl, by decide +kernel, rfl, by decide +kernel, by decide +kernel⟩
def b__law_far : SM :=
  sSeq (sRet (eB lenD (aCons (eFz (eComp [2] (iR1 (aCons (eB lenD (aCons (eV 0) (aNil))) (aNil))) (gN 2) (bOf (eBin neD (eIx (eV 0) (eV 2)) (eIx (eV 1) (eV 2)))) (eV 2))) (aNil)))) (sNx)
def f__law_far : List D → Rs := runF 3 b__law_far
theorem ok__law_far {f : Addr} {fd : FuncData} (B : Blt mg) (F : Fun K "_law_far" "_law_far" s__law_far f fd)  : FnOk P w K mg base CX0 1 f fd ["one", "other"] (spD0 K 2 f__law_far) := by
  refine ok_D0 (k := 0) (N := ["one", "other", "k"]) F sc__law_far fun cdv A outer s H E hr => ?_
  have hu := hr.units
  have nd := sc__law_far.nd
  exact (ds_cons (ds_ret (de_B cd_len (by rfl) B.len bt_len (da_cons (de_f (df_comp (own := [("k", 2)]) rfl nd (di_range1 (by rfl) B.range (da_cons (de_B cd_len (by rfl) B.len bt_len (da_cons (de_v 0) da_nil)) da_nil)) (blkOk_by (by rfl)) (fun _ _ _ _ _ => (dg_name 2 nd rfl (by first | exact Or.inl rfl | exact Or.inr rfl))) (fun _ _ _ _ _ => (dts_one (dt_cmp (od_ne hu) (de_ix hu (de_v 0) (de_v 2)) (dl_e (de_ix hu (de_v 1) (de_v 2))) (nomark _)))) (fun _ _ _ _ _ => (de_v 2)) (by decide))) da_nil))) ds_nil)
/-! ### _law_bits -/
abbrev s__law_bits : Stmt := topS 31
theorem sc__law_bits : FnScope ["number", "many", "k"] ["number", "many"] (defScope s__law_bits) := ⟨rfl, rfl, rfl, by decide +kernel, rfl, by decide +kernel, by decide +kernel⟩
def b__law_bits : SM :=
  sSeq (sRet (eB tupleD (aCons (eFz (eComp [2] (iR1 (aCons (eV 1) (aNil))) (gN 2) (bYes) (eBin modD (eB intD (aCons (eBin fdivD (eV 0) (eIx (eLst (aCons (eC (.int 1)) (aCons (eC (.int 2)) (aCons (eC (.int 4)) (aCons (eC (.int 8)) (aCons (eC (.int 16)) (aNil))))))) (eBin subD (eBin subD (eV 1) (eC (.int 1))) (eV 2)))) (aNil))) (eC (.int 2))))) (aNil)))) (sNx)
def f__law_bits : List D → Rs := runF 3 b__law_bits
theorem ok__law_bits {f : Addr} {fd : FuncData} (B : Blt mg) (F : Fun K "_law_bits" "_law_bits" s__law_bits f fd)  : FnOk P w K mg base CX0 1 f fd ["number", "many"] (spD0 K 2 f__law_bits) := by
  refine ok_D0 (k := 0) (N := ["number", "many", "k"]) F sc__law_bits fun cdv A outer s H E hr => ?_
  have hu := hr.units
  have nd := sc__law_bits.nd
  exact (ds_cons (ds_ret (de_Ty cd_tuple (by rfl) B.tuple bt_tuple (da_cons (de_f (df_comp (own := [("k", 2)]) rfl nd (di_range1 (by rfl) B.range (da_cons (de_v 1) da_nil)) (blkOk_by (by rfl)) (fun _ _ _ _ _ => (dg_name 2 nd rfl (by first | exact Or.inl rfl | exact Or.inr rfl))) (fun _ _ _ _ _ => dts_nil) (fun _ _ _ _ _ => (de_op od_mod (de_Ty cd_int (by rfl) B.int bt_int (da_cons (de_op od_fdiv (de_v 0) (dl_e (de_ix hu (de_lst (da_cons de_int (da_cons de_int (da_cons de_int (da_cons de_int (da_cons de_int da_nil)))))) (de_op od_sub (de_op od_sub (de_v 1) (dl_e de_int)) (dl_e (de_v 2)))))) da_nil)) (dl_e de_int))) (by decide))) da_nil))) ds_nil)
/-! ### _law_sum -/
abbrev s__law_sum : Stmt := topS 32
theorem sc__law_sum : FnScope ["mask", "added", "many", "row", "point", "k"] ["mask", "added", "many"] (defScope s__law_sum) := ⟨rfl, rfl, rfl, by decide +kernel, rfl, by decide +kernel, by decide +kernel⟩
def b__law_sum : SM :=
  sSeq (sSet 3 (eCall 2 (f__law_bits) (aCons (eV 0) (aCons (eV 2) (aNil))))) (sSeq (sRet (eB tupleD (aCons (eFz (eComp [4] (iA (eCall 2 (f__law_words) (aCons (eC (.int 2)) (aCons (eV 2) (aNil))))) (gN 4) (bYes) (eBin modD (eB intD (aCons (eBin addD (eV 1) (eB sumD (aCons (eFz (eComp [5] (iR1 (aCons (eV 2) (aNil))) (gN 5) (bYes) (eBin mulD (eIx (eV 3) (eV 5)) (eIx (eV 4) (eV 5))))) (aNil)))) (aNil))) (eC (.int 2))))) (aNil)))) (sNx))
def f__law_sum : List D → Rs := runF 6 b__law_sum
theorem ok__law_sum {f : Addr} {fd : FuncData} (B : Blt mg) (F : Fun K "_law_sum" "_law_sum" s__law_sum f fd) (h__law_words : Cal P w K mg base CX0 "_law_words" ["size", "many"] 1 (spD0 K 2 (f__law_words))) (h__law_bits : Cal P w K mg base CX0 "_law_bits" ["number", "many"] 1 (spD0 K 2 (f__law_bits))) : FnOk P w K mg base CX0 2 f fd ["mask", "added", "many"] (spD0 K 3 f__law_sum) := by
  refine ok_D0 (k := 1) (N := ["mask", "added", "many", "row", "point", "k"]) F sc__law_sum fun cdv A outer s H E hr => ?_
  have hu := hr.units
  have nd := sc__law_sum.nd
  exact (ds_cons (ds_set 3 nd (de_fn h__law_bits (hr.mono (by decide)) (da_cons (de_v 0) (da_cons (de_v 2) da_nil)))) (ds_cons (ds_ret (de_Ty cd_tuple (by rfl) B.tuple bt_tuple (da_cons (de_f (df_comp (own := [("point", 4)]) rfl nd (di_any (de_fn h__law_words (hr.mono (by decide)) (da_cons de_int (da_cons (de_v 2) da_nil)))) (blkOk_by (by rfl)) (fun _ _ _ _ _ => (dg_name 4 nd rfl (by first | exact Or.inl rfl | exact Or.inr rfl))) (fun _ _ _ _ _ => dts_nil) (fun _ _ _ _ _ => (de_op od_mod (de_Ty cd_int (by rfl) B.int bt_int (da_cons (de_op od_add (de_v 1) (dl_e (de_B (cd_sum rfl) (by rfl) B.sum bt_sum (da_cons (de_f (df_comp (own := [("k", 5)]) rfl nd (di_range1 (by rfl) B.range (da_cons (de_v 2) da_nil)) (blkOk_by (by rfl)) (fun _ _ _ _ _ => (dg_name 5 nd rfl (by first | exact Or.inl rfl | exact Or.inr rfl))) (fun _ _ _ _ _ => dts_nil) (fun _ _ _ _ _ => (de_op od_mul (de_ix hu (de_v 3) (de_v 5)) (dl_e (de_ix hu (de_v 4) (de_v 5))))) (by decide))) da_nil)))) da_nil)) (dl_e de_int))) (by decide))) da_nil))) ds_nil))
/-! ### law -/
abbrev s_law : Stmt := topS 33
theorem sc_law : FnScope ["script", "state", "many", "long", "word", "told", "mask", "row", "far", "pairs", "added", "size", "field", "every", "rows", "each", "table", "lots", "inner", "start", "lot", "k", "pair", "shares", "point", "n", "one"] ["script"] (defScope s_law) := ⟨rfl, rfl, rfl, by decide +kernel, rfl, by decide +kernel, by decide +kernel⟩
def b_law : SM :=
  sSeq (sSet 2 (eBin addD (eC (.int 1)) (eCallW 1 2 f__law_take (aCons (eC (.int 4)) (aNil))))) (sSeq (sSet 3 (eB lenD (aCons (eCall 2 (f__law_words) (aCons (eC (.int 2)) (aCons (eV 2) (aNil)))) (aNil)))) (sSeq (sSet 4 (eB tupleD (aCons (eFz (eComp [21] (iR1 (aCons (eV 3) (aNil))) (gN 21) (bYes) (eCallW 1 2 f__law_take (aCons (eC (.int 2)) (aNil))))) (aNil)))) (sSeq (sIf (bAnd (bOf (eBin eqD (eV 2) (eC (.int 2)))) (bOf (eBin eqD (eCallW 1 2 f__law_take (aCons (eC (.int 2)) (aNil))) (eC (.int 0))))) (sSeq (sSet 4 (eTup (aCons (eC (.int 0)) (aCons (eC (.int 0)) (aCons (eC (.int 0)) (aCons (eC (.int 1)) (aNil))))))) (sNx)) (sNx)) (sSeq (sIf (bAnd (bOf (eBin eqD (eV 2) (eC (.int 4)))) (bOf (eBin eqD (eCallW 1 2 f__law_take (aCons (eC (.int 2)) (aNil))) (eC (.int 0))))) (sSeq (sSet 4 (eB tupleD (aCons (eFz (eComp [24] (iA (eCall 2 (f__law_words) (aCons (eC (.int 2)) (aCons (eC (.int 4)) (aNil))))) (gN 24) (bYes) (eBin modD (eB intD (aCons (eBin addD (eBin mulD (eIx (eV 24) (eC (.int 0))) (eIx (eV 24) (eC (.int 1)))) (eBin mulD (eIx (eV 24) (eC (.int 2))) (eIx (eV 24) (eC (.int 3))))) (aNil))) (eC (.int 2))))) (aNil)))) (sNx)) (sNx)) (sSeq (sOwn 5 (eBind (aNil) fun ds => if small ds.length then eRet ds else fun _ => .bad)) (sSeq (sFor (iR1 (aCons (eV 3) (aNil))) (gN 6) (sSeq (sSet 7 (eCall 3 (f__law_sum) (aCons (eV 6) (aCons (eC (.int 0)) (aCons (eV 2) (aNil)))))) (sSeq (sExpr (eMut 5 appD (aCons (eBin subD (eV 3) (eBin mulD (eC (.int 2)) (eCall 2 (f__law_far) (aCons (eV 7) (aCons (eV 4) (aNil)))))) (aNil)))) (sNx)))) (sSeq (sIf (bOr (bOf (eBin neD (eCall 1 (f_transform) (aCons (eV 4) (aNil))) (eVO 5))) (bOf (eBin neD (eB sumD (aCons (eFz (eComp [25] (iA (eV 5)) (gN 25) (bYes) (eBin mulD (eV 25) (eV 25)))) (aNil))) (eBin mulD (eV 3) (eV 3))))) (sSeq (sRet (eC (.bool false))) (sNx)) (sNx)) (sSeq (sIf (bOr (bOf (eBin neD (eCall 1 (f_is_bent) (aCons (eV 4) (aNil))) (eBin eqD (eB lenD (aCons (eFz (eComp [25] (iA (eV 5)) (gN 25) (bOf (eBin neD (eB absD (aCons (eV 25) (aNil))) (eB absD (aCons (eAlt 5 (eIx (eV 5) (eC (.int 0))) (eIxO 5 (eC (.int 0)))) (aNil))))) (eV 25))) (aNil))) (eC (.int 0))))) (bOf (eBin isntD (eCall 1 (f_is_bent) (aCons (eTup (aCons (eC (.int 1)) (aNil))) (aNil))) (eC (.bool false))))) (sSeq (sRet (eC (.bool false))) (sNx)) (sNx)) (sSeq (sParK 8 9 (vD (eV 3)) (vO (eBind (aNil) fun ds => if small ds.length then eRet ds else fun _ => .bad))) (sSeq (sFor (iR1 (aCons (eV 3) (aNil))) (gN 6) (sSeq (sFor (iA (eTup (aCons (eC (.int 0)) (aCons (eC (.int 1)) (aNil))))) (gN 10) (sSeq (sExpr (eMut 9 appD (aCons (eTup (aCons (eCall 2 (f__law_far) (aCons (eCall 3 (f__law_sum) (aCons (eV 6) (aCons (eV 10) (aCons (eV 2) (aNil))))) (aCons (eV 4) (aNil)))) (aCons (eTup (aCons (eV 6) (aCons (eV 10) (aNil)))) (aNil)))) (aNil)))) (sNx))) (sNx))) (sSeq (sSet 8 (eB minD (aCons (eFz (eComp [22] (iA (eV 9)) (gN 22) (bYes) (eIx (eV 22) (eC (.int 0))))) (aNil)))) (sSeq (sIf (bOf (eBin neD (eCall 2 (f_nearest_sums) (aCons (eV 2) (aCons (eV 4) (aNil)))) (eFz (eComp [22] (iA (eV 9)) (gN 22) (bOf (eBin eqD (eIx (eV 22) (eC (.int 0))) (eV 8))) (eIx (eV 22) (eC (.int 1))))))) (sSeq (sRet (eC (.bool false))) (sNx)) (sNx)) (sSeq (sSet 2 (eBin addD (eC (.int 1)) (eCallW 1 2 f__law_take (aCons (eC (.int 3)) (aNil))))) (sSeq (sSet 11 (eCallW 1 2 f__law_take (aCons (eBin addD (eV 2) (eC (.int 1))) (aNil)))) (sSeq (sAsg (eTup (aCons (eCall 1 (f__law_field) (aCons (eC (.int 2)) (aNil))) (aCons (eCall 2 (f__law_words) (aCons (eC (.int 2)) (aCons (eV 2) (aNil)))) (aNil)))) (gT (gsCons (gN 12) (gsCons (gN 13) (gsNil))) 2)) (sSeq (sSet 14 (eLst (aNil))) (sSeq (sFor (iA (eCall 2 (f__law_words) (aCons (eC (.int 2)) (aCons (eBin mulD (eV 2) (eV 11)) (aNil))))) (gN 15) (sSeq (sSet 16 (eB tupleD (aCons (eFz (eComp [21] (iR1 (aCons (eV 11) (aNil))) (gN 21) (bYes) (eSl (eV 15) (oSome (eBin mulD (eV 21) (eV 2))) (oSome (eBin mulD (eBin addD (eV 21) (eC (.int 1))) (eV 2)))))) (aNil)))) (sSeq (sSet 14 (eIf (bOf (eBin eqD (eCall 2 (f__law_plain) (aCons (eV 12) (aCons (eV 16) (aNil)))) (eV 16))) (eBin addD (eV 14) (eLst (aCons (eV 16) (aNil)))) (eV 14))) (sNx)))) (sSeq (sIf (bOf (eBin neD (eFz (eBF sortedX (aCons (eCall 2 (f_plains) (aCons (eV 2) (aCons (eV 11) (aNil)))) (aNil)))) (eFz (eBF sortedX (aCons (eV 14) (aNil)))))) (sSeq (sRet (eC (.bool false))) (sNx)) (sNx)) (sSeq (sSet 17 (eLst (aNil))) (sSeq (sFor (iA (eV 14)) (gN 16) (sSeq (sDat 18 (eComp [23] (iA (eCall 2 (f__law_words) (aCons (eC (.int 2)) (aCons (eV 11) (aNil))))) (gN 23) (bYes) (eCall 4 (f__law_mix) (aCons (eV 12) (aCons (eV 16) (aCons (eV 23) (aCons (eV 2) (aNil)))))))) (sSeq (sFor (iA (eV 13)) (gN 19) (sSeq (sSet 20 (eB tupleD (aCons (eFz (eBF sortedX (aCons (eFz (eComp [26] (iA (eV 18)) (gN 26) (bYes) (eIdxG (eV 13) (eB tupleD (aCons (eFz (eComp [21] (iR1 (aCons (eV 2) (aNil))) (gN 21) (bYes) (eBin modD (eB intD (aCons (eBin addD (eIx (eV 19) (eV 21)) (eIx (eV 26) (eV 21))) (aNil))) (eC (.int 2))))) (aNil)))))) (aNil)))) (aNil)))) (sSeq (sSet 17 (eIf (bOf (eBin ninD (eV 20) (eV 17))) (eBin addD (eV 17) (eLst (aCons (eV 20) (aNil)))) (eV 17))) (sNx)))) (sNx)))) (sSeq (sRet (eBin eqD (eCall 2 (f_flats) (aCons (eV 2) (aCons (eV 11) (aNil)))) (eFz (eBF sortedX (aCons (eV 17) (aNil)))))) (sNx))))))))))))))))))))))
theorem ok_law {f : Addr} {fd : FuncData} (B : Blt mg) (F : Fun K "law" "law" s_law f fd) (h__law_state : Cal P w K mg base CX0 "_law_state" ["script"] 1 (spSt K)) (h_flats : Cal P w K mg base CX0 "flats" ["many", "size"] 4 (spD0 K 2 (f_flats))) (h__law_words : Cal P w K mg base CX0 "_law_words" ["size", "many"] 1 (spD0 K 2 (f__law_words))) (h__law_mix : Cal P w K mg base CX0 "_law_mix" ["field", "rows", "shares", "wide"] 1 (spD0 K 4 (f__law_mix))) (h_plains : Cal P w K mg base CX0 "plains" ["many", "size"] 3 (spD0 K 2 (f_plains))) (h__law_plain : Cal P w K mg base CX0 "_law_plain" ["field", "rows"] 2 (spD0 K 2 (f__law_plain))) (h__law_field : Cal P w K mg base CX0 "_law_field" ["size"] 2 (spD0 K 1 (f__law_field))) (h__law_take : Cal P w K mg base CX0 "_law_take" ["state", "most"] 1 (spW K 2 f__law_take)) (h_nearest_sums : Cal P w K mg base CX0 "nearest_sums" ["many", "word"] 2 (spD0 K 2 (f_nearest_sums))) (h__law_far : Cal P w K mg base CX0 "_law_far" ["one", "other"] 1 (spD0 K 2 (f__law_far))) (h__law_sum : Cal P w K mg base CX0 "_law_sum" ["mask", "added", "many"] 2 (spD0 K 3 (f__law_sum))) (h_is_bent : Cal P w K mg base CX0 "is_bent" ["word"] 2 (spD0 K 1 (f_is_bent))) (h_transform : Cal P w K mg base CX0 "transform" ["word"] 1 (spD0 K 1 (f_transform))) (hp : ∀ a ms, DrawOk ms → ∃ S, b_law (.un :: .drw a 0 ms :: List.replicate 25 .un) = .rt (.bool true) S) : FnOk P w K mg base CX0 5 f fd ["script"] (spLaw K) := by
  refine F.ok (k := 4) sc_law (fun vs H Q E h => ?_) (fun cdv A outer s H vs Q E hr h => ?_)
  · obtain ⟨a, ns, rfl, _⟩ := h
    rfl
  · obtain ⟨a, ns, rfl, hS, hlen, q⟩ := h
    have hu := hr.units
    have nd := sc_law.nd
    have hrest : ∀ X : Cx, X = (cxOf CX0 P w K mg base ["script", "state", "many", "long", "word", "told", "mask", "row", "far", "pairs", "added", "size", "field", "every", "rows", "each", "table", "lots", "inner", "start", "lot", "k", "pair", "shares", "point", "n", "one"] "law" (defScope s_law) f cdv A outer s H E).nox → DSs X W0 (defBody s_law).tail b_law := fun X e => by
      subst e
      exact (ds_cons (ds_set 2 nd (de_op od_add de_int (dl_e (de_fnW 1 h__law_take (hr.mono (by decide)) (da_cons de_int da_nil))))) (ds_cons (ds_set 3 nd (de_B cd_len (by rfl) B.len bt_len (da_cons (de_fn h__law_words (hr.mono (by decide)) (da_cons de_int (da_cons (de_v 2) da_nil))) da_nil))) (ds_cons (ds_set 4 nd (de_Ty cd_tuple (by rfl) B.tuple bt_tuple (da_cons (de_f (df_comp (own := [("k", 21)]) rfl nd (di_range1 (by rfl) B.range (da_cons (de_v 3) da_nil)) (blkOk_by (by rfl)) (fun _ _ _ _ _ => (dg_name 21 nd rfl (by first | exact Or.inl rfl | exact Or.inr rfl))) (fun _ _ _ _ _ => dts_nil) (fun _ _ _ _ _ => (de_fnW 1 h__law_take (hr.mono (by decide)) (da_cons de_int da_nil))) (by decide))) da_nil))) (ds_cons (ds_if (dt_w (dw_and (dt_cmp (od_eq hu) (de_v 2) (dl_e de_int) (nomark _)) (dw_and1 (dt_cmp (od_eq hu) (de_fnW 1 h__law_take (hr.mono (by decide)) (da_cons de_int da_nil)) (dl_e de_int) (nomark _))))) (ds_cons (ds_set 4 nd (de_tup (da_cons de_int (da_cons de_int (da_cons de_int (da_cons de_int da_nil)))))) ds_nil) ds_nil) (ds_cons (ds_if (dt_w (dw_and (dt_cmp (od_eq hu) (de_v 2) (dl_e de_int) (nomark _)) (dw_and1 (dt_cmp (od_eq hu) (de_fnW 1 h__law_take (hr.mono (by decide)) (da_cons de_int da_nil)) (dl_e de_int) (nomark _))))) (ds_cons (ds_set 4 nd (de_Ty cd_tuple (by rfl) B.tuple bt_tuple (da_cons (de_f (df_comp (own := [("point", 24)]) rfl nd (di_any (de_fn h__law_words (hr.mono (by decide)) (da_cons de_int (da_cons de_int da_nil)))) (blkOk_by (by rfl)) (fun _ _ _ _ _ => (dg_name 24 nd rfl (by first | exact Or.inl rfl | exact Or.inr rfl))) (fun _ _ _ _ _ => dts_nil) (fun _ _ _ _ _ => (de_op od_mod (de_Ty cd_int (by rfl) B.int bt_int (da_cons (de_op od_add (de_op od_mul (de_ix hu (de_v 24) de_int) (dl_e (de_ix hu (de_v 24) de_int))) (dl_e (de_op od_mul (de_ix hu (de_v 24) de_int) (dl_e (de_ix hu (de_v 24) de_int))))) da_nil)) (dl_e de_int))) (by decide))) da_nil))) ds_nil) ds_nil) (ds_cons (ds_own 5 nd (df_lst da_nil)) (ds_cons (ds_for PassesOwn.never rfl (di_range1 (by rfl) B.range (da_cons (de_v 3) da_nil)) (dg_name 6 nd rfl (by first | exact Or.inl rfl | exact Or.inr rfl)) (ds_cons (ds_set 7 nd (de_fn h__law_sum (hr.mono (by decide)) (da_cons (de_v 6) (da_cons de_int (da_cons (de_v 2) da_nil))))) (ds_cons (ds_expr (de_mut 5 md_append PySem.F.slot_list_append PySem.F.type_list_append (da_cons (de_op od_sub (de_v 3) (dl_e (de_op od_mul de_int (dl_e (de_fn h__law_far (hr.mono (by decide)) (da_cons (de_v 7) (da_cons (de_v 4) da_nil))))))) da_nil))) ds_nil))) (ds_cons (ds_if (dt_w (dw_or (dt_cmp (od_ne hu) (de_fn h_transform (hr.mono (by decide)) (da_cons (de_v 4) da_nil)) (dl_o 5) (nomark _)) (dw_or1 (dt_cmp (od_ne hu) (de_B (cd_sum rfl) (by rfl) B.sum bt_sum (da_cons (de_f (df_comp (own := [("n", 25)]) rfl nd (di_any (de_v 5)) (blkOk_by (by rfl)) (fun _ _ _ _ _ => (dg_name 25 nd rfl (by first | exact Or.inl rfl | exact Or.inr rfl))) (fun _ _ _ _ _ => dts_nil) (fun _ _ _ _ _ => (de_op od_mul (de_v 25) (dl_e (de_v 25)))) (by decide))) da_nil)) (dl_e (de_op od_mul (de_v 3) (dl_e (de_v 3)))) (nomark _))))) (ds_cons (ds_ret de_bl) ds_nil) ds_nil) (ds_cons (ds_if (dt_w (dw_or (dt_cmp (od_ne hu) (de_fn h_is_bent (hr.mono (by decide)) (da_cons (de_v 4) da_nil)) (dl_e (de_cmp (od_eq hu) (de_B cd_len (by rfl) B.len bt_len (da_cons (de_f (df_comp (own := [("n", 25)]) rfl nd (di_any (de_v 5)) (blkOk_by (by rfl)) (fun _ _ _ _ _ => (dg_name 25 nd rfl (by first | exact Or.inl rfl | exact Or.inr rfl))) (fun _ _ _ _ _ => (dts_one (dt_cmp (od_ne hu) (de_B cd_abs (by rfl) B.abs bt_abs (da_cons (de_v 25) da_nil)) (dl_e (de_B cd_abs (by rfl) B.abs bt_abs (da_cons (de_alt 5 (de_ix hu (de_v 5) de_int) (de_ixO hu 5 de_int)) da_nil))) (nomark _)))) (fun _ _ _ _ _ => (de_v 25)) (by decide))) da_nil)) (dl_e de_int) (nomark _))) (nomark _)) (dw_or1 (dt_cmp od_isnt (de_fn h_is_bent (hr.mono (by decide)) (da_cons (de_tup (da_cons de_int da_nil)) da_nil)) (dl_e de_bl) (nomark _))))) (ds_cons (ds_ret de_bl) ds_nil) ds_nil) (ds_cons (ds_asgK 8 9 rfl nd (dk_d (de_v 3)) (dk_o (df_lst da_nil))) (ds_cons (ds_for PassesOwn.never rfl (di_range1 (by rfl) B.range (da_cons (de_v 3) da_nil)) (dg_name 6 nd rfl (by first | exact Or.inl rfl | exact Or.inr rfl)) (ds_cons (ds_for PassesOwn.never rfl (di_any (de_tup (da_cons de_int (da_cons de_int da_nil)))) (dg_name 10 nd rfl (by first | exact Or.inl rfl | exact Or.inr rfl)) (ds_cons (ds_expr (de_mut 9 md_append PySem.F.slot_list_append PySem.F.type_list_append (da_cons (de_tup (da_cons (de_fn h__law_far (hr.mono (by decide)) (da_cons (de_fn h__law_sum (hr.mono (by decide)) (da_cons (de_v 6) (da_cons (de_v 10) (da_cons (de_v 2) da_nil)))) (da_cons (de_v 4) da_nil))) (da_cons (de_tup (da_cons (de_v 6) (da_cons (de_v 10) da_nil))) da_nil))) da_nil))) ds_nil)) ds_nil)) (ds_cons (ds_set 8 nd (de_B (cd_min rfl) (by rfl) B.min bt_min (da_cons (de_f (df_comp (own := [("pair", 22)]) rfl nd (di_any (de_v 9)) (blkOk_by (by rfl)) (fun _ _ _ _ _ => (dg_name 22 nd rfl (by first | exact Or.inl rfl | exact Or.inr rfl))) (fun _ _ _ _ _ => dts_nil) (fun _ _ _ _ _ => (de_ix hu (de_v 22) de_int)) (by decide))) da_nil))) (ds_cons (ds_if (dt_cmp (od_ne hu) (de_fn h_nearest_sums (hr.mono (by decide)) (da_cons (de_v 2) (da_cons (de_v 4) da_nil))) (dl_e (de_f (df_comp (own := [("pair", 22)]) rfl nd (di_any (de_v 9)) (blkOk_by (by rfl)) (fun _ _ _ _ _ => (dg_name 22 nd rfl (by first | exact Or.inl rfl | exact Or.inr rfl))) (fun _ _ _ _ _ => (dts_one (dt_cmp (od_eq hu) (de_ix hu (de_v 22) de_int) (dl_e (de_v 8)) (nomark _)))) (fun _ _ _ _ _ => (de_ix hu (de_v 22) de_int)) (by decide)))) (nomark _)) (ds_cons (ds_ret de_bl) ds_nil) ds_nil) (ds_cons (ds_set 2 nd (de_op od_add de_int (dl_e (de_fnW 1 h__law_take (hr.mono (by decide)) (da_cons de_int da_nil))))) (ds_cons (ds_set 11 nd (de_fnW 1 h__law_take (hr.mono (by decide)) (da_cons (de_op od_add (de_v 2) (dl_e de_int)) da_nil))) (ds_cons (ds_asg (de_tup (da_cons (de_fn h__law_field (hr.mono (by decide)) (da_cons de_int da_nil)) (da_cons (de_fn h__law_words (hr.mono (by decide)) (da_cons de_int (da_cons (de_v 2) da_nil))) da_nil))) (dg_tup rfl (dgs_cons (dg_name 12 nd rfl (by first | exact Or.inl rfl | exact Or.inr rfl)) (dgs_cons (dg_name 13 nd rfl (by first | exact Or.inl rfl | exact Or.inr rfl)) dgs_nil)))) (ds_cons (ds_set 14 nd (de_lst da_nil)) (ds_cons (ds_for PassesOwn.never rfl (di_any (de_fn h__law_words (hr.mono (by decide)) (da_cons de_int (da_cons (de_op od_mul (de_v 2) (dl_e (de_v 11))) da_nil)))) (dg_name 15 nd rfl (by first | exact Or.inl rfl | exact Or.inr rfl)) (ds_cons (ds_set 16 nd (de_Ty cd_tuple (by rfl) B.tuple bt_tuple (da_cons (de_f (df_comp (own := [("k", 21)]) rfl nd (di_range1 (by rfl) B.range (da_cons (de_v 11) da_nil)) (blkOk_by (by rfl)) (fun _ _ _ _ _ => (dg_name 21 nd rfl (by first | exact Or.inl rfl | exact Or.inr rfl))) (fun _ _ _ _ _ => dts_nil) (fun _ _ _ _ _ => (de_sl (de_v 15) (dp_some (de_op od_mul (de_v 21) (dl_e (de_v 2)))) (dp_some (de_op od_mul (de_op od_add (de_v 21) (dl_e de_int)) (dl_e (de_v 2)))))) (by decide))) da_nil))) (ds_cons (ds_set 14 nd (de_if (dt_cmp (od_eq hu) (de_fn h__law_plain (hr.mono (by decide)) (da_cons (de_v 12) (da_cons (de_v 16) da_nil))) (dl_e (de_v 16)) (nomark _)) (de_op od_add (de_v 14) (dl_e (de_lst (da_cons (de_v 16) da_nil)))) (de_v 14))) ds_nil))) (ds_cons (ds_if (dt_cmp (od_ne hu) (de_f (df_B (cf_sortedX hu) (by rfl) B.sorted bt_sorted (da_cons (de_fn h_plains (hr.mono (by decide)) (da_cons (de_v 2) (da_cons (de_v 11) da_nil))) da_nil))) (dl_e (de_f (df_B (cf_sortedX hu) (by rfl) B.sorted bt_sorted (da_cons (de_v 14) da_nil)))) (nomark _)) (ds_cons (ds_ret de_bl) ds_nil) ds_nil) (ds_cons (ds_set 17 nd (de_lst da_nil)) (ds_cons (ds_for PassesOwn.never rfl (di_any (de_v 14)) (dg_name 16 nd rfl (by first | exact Or.inl rfl | exact Or.inr rfl)) (ds_cons (ds_datLc 18 (own := [("shares", 23)]) rfl nd (di_any (de_fn h__law_words (hr.mono (by decide)) (da_cons de_int (da_cons (de_v 11) da_nil)))) (blkOk_by (by rfl)) (fun _ _ _ _ _ => (dg_name 23 nd rfl (by first | exact Or.inl rfl | exact Or.inr rfl))) (fun _ _ _ _ _ => dts_nil) (fun _ _ _ _ _ => (de_fn h__law_mix (hr.mono (by decide)) (da_cons (de_v 12) (da_cons (de_v 16) (da_cons (de_v 23) (da_cons (de_v 2) da_nil)))))) (by decide) (sw_true rfl rfl rfl (by decide +kernel))) (ds_cons (ds_for PassesOwn.never rfl (di_any (de_v 13)) (dg_name 19 nd rfl (by first | exact Or.inl rfl | exact Or.inr rfl)) (ds_cons (ds_set 20 nd (de_Ty cd_tuple (by rfl) B.tuple bt_tuple (da_cons (de_f (df_B (cf_sortedX hu) (by rfl) B.sorted bt_sorted (da_cons (de_f (df_comp (own := [("one", 26)]) rfl nd (di_any (de_v 18)) (blkOk_by (by rfl)) (fun _ _ _ _ _ => (dg_name 26 nd rfl (by first | exact Or.inl rfl | exact Or.inr rfl))) (fun _ _ _ _ _ => dts_nil) (fun _ _ _ _ _ => (de_indexG (units65 hr) (de_v 13) (de_Ty cd_tuple (by rfl) B.tuple bt_tuple (da_cons (de_f (df_comp (own := [("k", 21)]) rfl nd (di_range1 (by rfl) B.range (da_cons (de_v 2) da_nil)) (blkOk_by (by rfl)) (fun _ _ _ _ _ => (dg_name 21 nd rfl (by first | exact Or.inl rfl | exact Or.inr rfl))) (fun _ _ _ _ _ => dts_nil) (fun _ _ _ _ _ => (de_op od_mod (de_Ty cd_int (by rfl) B.int bt_int (da_cons (de_op od_add (de_ix hu (de_v 19) (de_v 21)) (dl_e (de_ix hu (de_v 26) (de_v 21)))) da_nil)) (dl_e de_int))) (by decide))) da_nil)))) (by decide))) da_nil))) da_nil))) (ds_cons (ds_set 17 nd (de_if (dt_cmp (od_nin hu) (de_v 20) (dl_e (de_v 17)) (by rfl)) (de_op od_add (de_v 17) (dl_e (de_lst (da_cons (de_v 20) da_nil)))) (de_v 17))) ds_nil))) ds_nil))) (ds_cons (ds_ret (de_cmp (od_eq hu) (de_fn h_flats (hr.mono (by decide)) (da_cons (de_v 2) (da_cons (de_v 11) da_nil))) (dl_e (de_f (df_B (cf_sortedX hu) (by rfl) B.sorted bt_sorted (da_cons (de_v 17) da_nil)))) (nomark _))) ds_nil))))))))))))))))))))))
    obtain ⟨fS, fdS, GS, gS, kS, bS⟩ := h__law_state
    refine ⟨_, pss_cons (ps_set (i := 1) nd rfl (by first | exact Or.inl rfl | exact Or.inr rfl) (pe_call GS (hr.mono (by decide)) (by rfl) gS kS bS .nil pass0 (pa_cons (pv 0) pa_nil))) (hrest _ rfl), ?_⟩
    refine ⟨.ref a, rfl, a, ns, rfl, hS, hlen, fun H1 p b sm np nb ne ms hms ep eb => ?_⟩
    obtain ⟨S', er⟩ := hp p ms hms
    exact law_rest (n := 25) ne ep eb er q
end
end FW

namespace FW
open PySem PySem.Spec L2
open PyProof.Rows hiding St
/-! ### the head -/
def d_all_words : He.DefD := ⟨("all_words", none), "all_words", "all_words", defArgs s_all_words, defBody s_all_words, defScope s_all_words, [], []⟩
def d_points : He.DefD := ⟨("points", none), "points", "points", defArgs s_points, defBody s_points, defScope s_points, [], []⟩
def d_longer : He.DefD := ⟨("longer", none), "longer", "longer", defArgs s_longer, defBody s_longer, defScope s_longer, [], []⟩
def d_plains : He.DefD := ⟨("plains", none), "plains", "plains", defArgs s_plains, defBody s_plains, defScope s_plains, [], []⟩
def d_spans : He.DefD := ⟨("spans", none), "spans", "spans", defArgs s_spans, defBody s_spans, defScope s_spans, [], []⟩
def d_flats : He.DefD := ⟨("flats", none), "flats", "flats", defArgs s_flats, defBody s_flats, defScope s_flats, [], []⟩
def d_transform : He.DefD := ⟨("transform", none), "transform", "transform", defArgs s_transform, defBody s_transform, defScope s_transform, [], []⟩
def d_nearest_sums : He.DefD := ⟨("nearest_sums", none), "nearest_sums", "nearest_sums", defArgs s_nearest_sums, defBody s_nearest_sums, defScope s_nearest_sums, [], []⟩
def d_is_bent : He.DefD := ⟨("is_bent", none), "is_bent", "is_bent", defArgs s_is_bent, defBody s_is_bent, defScope s_is_bent, [], []⟩
def d__law_state : He.DefD := ⟨("_law_state", none), "_law_state", "_law_state", defArgs s__law_state, defBody s__law_state, defScope s__law_state, [], []⟩
def d__law_take : He.DefD := ⟨("_law_take", none), "_law_take", "_law_take", defArgs s__law_take, defBody s__law_take, defScope s__law_take, [], []⟩
def d__law_pick : He.DefD := ⟨("_law_pick", none), "_law_pick", "_law_pick", defArgs s__law_pick, defBody s__law_pick, defScope s__law_pick, [], []⟩
def d__law_digits : He.DefD := ⟨("_law_digits", none), "_law_digits", "_law_digits", defArgs s__law_digits, defBody s__law_digits, defScope s__law_digits, [], []⟩
def d__law_field : He.DefD := ⟨("_law_field", none), "_law_field", "_law_field", defArgs s__law_field, defBody s__law_field, defScope s__law_field, [], []⟩
def d__law_neg : He.DefD := ⟨("_law_neg", none), "_law_neg", "_law_neg", defArgs s__law_neg, defBody s__law_neg, defScope s__law_neg, [], []⟩
def d__law_dot : He.DefD := ⟨("_law_dot", none), "_law_dot", "_law_dot", defArgs s__law_dot, defBody s__law_dot, defScope s__law_dot, [], []⟩
def d__law_mix : He.DefD := ⟨("_law_mix", none), "_law_mix", "_law_mix", defArgs s__law_mix, defBody s__law_mix, defScope s__law_mix, [], []⟩
def d__law_plain : He.DefD := ⟨("_law_plain", none), "_law_plain", "_law_plain", defArgs s__law_plain, defBody s__law_plain, defScope s__law_plain, [], []⟩
def d__law_words : He.DefD := ⟨("_law_words", none), "_law_words", "_law_words", defArgs s__law_words, defBody s__law_words, defScope s__law_words, [], []⟩
def d__law_all : He.DefD := ⟨("_law_all", none), "_law_all", "_law_all", defArgs s__law_all, defBody s__law_all, defScope s__law_all, [], []⟩
def d__law_code : He.DefD := ⟨("_law_code", none), "_law_code", "_law_code", defArgs s__law_code, defBody s__law_code, defScope s__law_code, [], []⟩
def d__law_dual : He.DefD := ⟨("_law_dual", none), "_law_dual", "_law_dual", defArgs s__law_dual, defBody s__law_dual, defScope s__law_dual, [], []⟩
def d__law_weight : He.DefD := ⟨("_law_weight", none), "_law_weight", "_law_weight", defArgs s__law_weight, defBody s__law_weight, defScope s__law_weight, [], []⟩
def d__law_far : He.DefD := ⟨("_law_far", none), "_law_far", "_law_far", defArgs s__law_far, defBody s__law_far, defScope s__law_far, [], []⟩
def d__law_bits : He.DefD := ⟨("_law_bits", none), "_law_bits", "_law_bits", defArgs s__law_bits, defBody s__law_bits, defScope s__law_bits, [], []⟩
def d__law_sum : He.DefD := ⟨("_law_sum", none), "_law_sum", "_law_sum", defArgs s__law_sum, defBody s__law_sum, defScope s__law_sum, [], []⟩
def d_law : He.DefD := ⟨("law", none), "law", "law", defArgs s_law, defBody s_law, defScope s_law, [], []⟩
def fns : List He.DefD := [d_all_words, d_points, d_longer, d_plains, d_spans, d_flats, d_transform, d_nearest_sums, d_is_bent, d__law_state, d__law_take, d__law_pick, d__law_digits, d__law_field, d__law_neg, d__law_dot, d__law_mix, d__law_plain, d__law_words, d__law_all, d__law_code, d__law_dual, d__law_weight, d__law_far, d__law_bits, d__law_sum, d_law]
def fas : List He.Fa := [.glo "all_words", .glo "points", .glo "longer", .glo "plains", .glo "spans", .glo "flats", .glo "transform", .glo "nearest_sums", .glo "is_bent", .glo "_law_state", .glo "_law_take", .glo "_law_pick", .glo "_law_digits", .glo "_law_field", .glo "_law_neg", .glo "_law_dot", .glo "_law_mix", .glo "_law_plain", .glo "_law_words", .glo "_law_all", .glo "_law_code", .glo "_law_dual", .glo "_law_weight", .glo "_law_far", .glo "_law_bits", .glo "_law_sum", .glo "law", .free "len", .free "range", .free "sum", .free "tuple", .free "list", .free "int", .free "isinstance", .free "any", .free "all", .free "abs", .free "min", .free "max", .free "sorted", .free "set", .free "dict", .free "str", .free "bool", .free "zip", .int "MOST_UNKNOWNS" 6]
def bsx : List (PySem.W.Frag → Bool) := []
abbrev R : PySem.W.OpenRow := PySem.W.OpenLaw.row PySem.Challenge.rw_farwords_k16_whole_transforms_and_flat_l
abbrev hk : PySem.W.Hook := hookX 4 fas fns bsx
def ob (s : PySem.W.SharedT) : AlX := obsXG 4 fas fns bsx (HandSHeadRun.getT s)
theorem ob_eq (s : PySem.W.SharedT) : ob s = hk.obs s.abs := obsXG_eq (HandSHeadRun.getT_eq s)
def loose : List PySem.Str := "Wrong" :: "Great" :: "all_words" :: "MOST_UNKNOWNS" :: "points" :: "flats" :: "plains" :: "longer" :: "spans" :: "transform" :: "nearest_sums" :: "is_bent" :: "_law_state" :: "_law_take" :: "_law_pick" :: "_law_digits" :: "_law_field" :: "_law_neg" :: "_law_dot" :: "_law_mix" :: "_law_plain" :: "_law_words" :: "_law_all" :: "_law_code" :: "_law_dual" :: "_law_weight" :: "_law_far" :: "_law_bits" :: "_law_sum" :: []
theorem run (w : World) : HandSHeadRun.RunEq R (PySem.W.view R.prog [33]) hk ob 4000 loose w := by
  intro os
  kernel_rfl
set_option maxHeartbeats 0 in
theorem facts {P : Program} {w : World} {K : PySem.W.Frag} {h : Heap} {mg : Str → Option Value} {f : Addr} (hp : ∀ a ms, DrawOk ms → ∃ S, b_law (.un :: .drw a 0 ms :: List.replicate 25 .un) = .rt (.bool true) S) (X : K.In h) (G : h.Ns mainGlobals mg) (hfa : mg ("law" : Str) = some (.ref f)) (cx : SaysX fas fns bsx K) :
    ∃ fd : FuncData, (∀ (s : Shared) (v : Value), BindsTo s fd ⟨[v], []⟩ [("script", v)]) ∧ ∀ base : Heap, K.In base → base.Ns mainGlobals mg → FnOk P w K mg base CX0 5 f fd ["script"] (spLaw K) := by
  have c := cx.d
  have B : Blt mg := ⟨He.free_ok X G (c.fact 27 (f := .free "len") rfl), He.free_ok X G (c.fact 28 (f := .free "range") rfl), He.free_ok X G (c.fact 29 (f := .free "sum") rfl), He.free_ok X G (c.fact 30 (f := .free "tuple") rfl), He.free_ok X G (c.fact 31 (f := .free "list") rfl), He.free_ok X G (c.fact 32 (f := .free "int") rfl), He.free_ok X G (c.fact 33 (f := .free "isinstance") rfl), He.free_ok X G (c.fact 34 (f := .free "any") rfl), He.free_ok X G (c.fact 35 (f := .free "all") rfl), He.free_ok X G (c.fact 36 (f := .free "abs") rfl), He.free_ok X G (c.fact 37 (f := .free "min") rfl), He.free_ok X G (c.fact 38 (f := .free "max") rfl), He.free_ok X G (c.fact 39 (f := .free "sorted") rfl), He.free_ok X G (c.fact 40 (f := .free "set") rfl), He.free_ok X G (c.fact 41 (f := .free "dict") rfl), He.free_ok X G (c.fact 42 (f := .free "str") rfl), He.free_ok X G (c.fact 43 (f := .free "bool") rfl), He.free_ok X G (c.fact 44 (f := .free "zip") rfl)⟩
  have g_MOST_UNKNOWNS : ∃ t, mg "MOST_UNKNOWNS" = some (.int 6 t) := He.int_ok X G (c.fact 45 (f := .int "MOST_UNKNOWNS" 6) rfl)
  obtain ⟨fd_all_words, T_all_words⟩ := c.def_ 0 (d := d_all_words) rfl
  have U_all_words : Fun K "all_words" "all_words" s_all_words (He.ga K "all_words") fd_all_words := fun_of T_all_words
  have b_all_words : L2.Binds K fd_all_words ["size", "many"] [] := T_all_words.bindsN fun _ _ _ _ _ _ us hl => match us, hl with | [_, _], _ => rfl
  have h_all_words : ∀ base, Cal P w K mg base CX0 "all_words" ["size", "many"] 1 (spD0 K 2 (f_all_words)) := fun base => Cal.mk' U_all_words (ok_all_words B U_all_words ) (He.glo_ok X G (c.fact 0 (f := .glo "all_words") rfl)) b_all_words
  obtain ⟨fd_points, T_points⟩ := c.def_ 1 (d := d_points) rfl
  have U_points : Fun K "points" "points" s_points (He.ga K "points") fd_points := fun_of T_points
  have b_points : L2.Binds K fd_points ["many"] [] := T_points.bindsN fun _ _ _ _ _ _ us hl => match us, hl with | [_], _ => rfl
  have h_points : ∀ base, Cal P w K mg base CX0 "points" ["many"] 2 (spD0 K 1 (f_points)) := fun base => Cal.mk' U_points (ok_points B U_points (h_all_words base) g_MOST_UNKNOWNS) (He.glo_ok X G (c.fact 1 (f := .glo "points") rfl)) b_points
  obtain ⟨fd_longer, T_longer⟩ := c.def_ 2 (d := d_longer) rfl
  have U_longer : Fun K "longer" "longer" s_longer (He.ga K "longer") fd_longer := fun_of T_longer
  have b_longer : L2.Binds K fd_longer ["many", "rows"] [] := T_longer.bindsN fun _ _ _ _ _ _ us hl => match us, hl with | [_, _], _ => rfl
  have h_longer : ∀ base, Cal P w K mg base CX0 "longer" ["many", "rows"] 2 (spD0 K 2 (f_longer)) := fun base => Cal.mk' U_longer (ok_longer B U_longer (h_all_words base)) (He.glo_ok X G (c.fact 2 (f := .glo "longer") rfl)) b_longer
  obtain ⟨fd_plains, T_plains⟩ := c.def_ 3 (d := d_plains) rfl
  have U_plains : Fun K "plains" "plains" s_plains (He.ga K "plains") fd_plains := fun_of T_plains
  have b_plains : L2.Binds K fd_plains ["many", "size"] [] := T_plains.bindsN fun _ _ _ _ _ _ us hl => match us, hl with | [_, _], _ => rfl
  have h_plains : ∀ base, Cal P w K mg base CX0 "plains" ["many", "size"] 3 (spD0 K 2 (f_plains)) := fun base => Cal.mk' U_plains (ok_plains B U_plains (h_longer base)) (He.glo_ok X G (c.fact 3 (f := .glo "plains") rfl)) b_plains
  obtain ⟨fd_spans, T_spans⟩ := c.def_ 4 (d := d_spans) rfl
  have U_spans : Fun K "spans" "spans" s_spans (He.ga K "spans") fd_spans := fun_of T_spans
  have b_spans : L2.Binds K fd_spans ["rows", "many"] [] := T_spans.bindsN fun _ _ _ _ _ _ us hl => match us, hl with | [_, _], _ => rfl
  have h_spans : ∀ base, Cal P w K mg base CX0 "spans" ["rows", "many"] 1 (spD0 K 2 (f_spans)) := fun base => Cal.mk' U_spans (ok_spans B U_spans ) (He.glo_ok X G (c.fact 4 (f := .glo "spans") rfl)) b_spans
  obtain ⟨fd_flats, T_flats⟩ := c.def_ 5 (d := d_flats) rfl
  have U_flats : Fun K "flats" "flats" s_flats (He.ga K "flats") fd_flats := fun_of T_flats
  have b_flats : L2.Binds K fd_flats ["many", "size"] [] := T_flats.bindsN fun _ _ _ _ _ _ us hl => match us, hl with | [_, _], _ => rfl
  have h_flats : ∀ base, Cal P w K mg base CX0 "flats" ["many", "size"] 4 (spD0 K 2 (f_flats)) := fun base => Cal.mk' U_flats (ok_flats B U_flats (h_plains base) (h_spans base) (h_points base)) (He.glo_ok X G (c.fact 5 (f := .glo "flats") rfl)) b_flats
  obtain ⟨fd_transform, T_transform⟩ := c.def_ 6 (d := d_transform) rfl
  have U_transform : Fun K "transform" "transform" s_transform (He.ga K "transform") fd_transform := fun_of T_transform
  have b_transform : L2.Binds K fd_transform ["word"] [] := T_transform.bindsN fun _ _ _ _ _ _ us hl => match us, hl with | [_], _ => rfl
  have h_transform : ∀ base, Cal P w K mg base CX0 "transform" ["word"] 1 (spD0 K 1 (f_transform)) := fun base => Cal.mk' U_transform (ok_transform B U_transform ) (He.glo_ok X G (c.fact 6 (f := .glo "transform") rfl)) b_transform
  obtain ⟨fd_nearest_sums, T_nearest_sums⟩ := c.def_ 7 (d := d_nearest_sums) rfl
  have U_nearest_sums : Fun K "nearest_sums" "nearest_sums" s_nearest_sums (He.ga K "nearest_sums") fd_nearest_sums := fun_of T_nearest_sums
  have b_nearest_sums : L2.Binds K fd_nearest_sums ["many", "word"] [] := T_nearest_sums.bindsN fun _ _ _ _ _ _ us hl => match us, hl with | [_, _], _ => rfl
  have h_nearest_sums : ∀ base, Cal P w K mg base CX0 "nearest_sums" ["many", "word"] 2 (spD0 K 2 (f_nearest_sums)) := fun base => Cal.mk' U_nearest_sums (ok_nearest_sums B U_nearest_sums (h_transform base)) (He.glo_ok X G (c.fact 7 (f := .glo "nearest_sums") rfl)) b_nearest_sums
  obtain ⟨fd_is_bent, T_is_bent⟩ := c.def_ 8 (d := d_is_bent) rfl
  have U_is_bent : Fun K "is_bent" "is_bent" s_is_bent (He.ga K "is_bent") fd_is_bent := fun_of T_is_bent
  have b_is_bent : L2.Binds K fd_is_bent ["word"] [] := T_is_bent.bindsN fun _ _ _ _ _ _ us hl => match us, hl with | [_], _ => rfl
  have h_is_bent : ∀ base, Cal P w K mg base CX0 "is_bent" ["word"] 2 (spD0 K 1 (f_is_bent)) := fun base => Cal.mk' U_is_bent (ok_is_bent B U_is_bent (h_transform base)) (He.glo_ok X G (c.fact 8 (f := .glo "is_bent") rfl)) b_is_bent
  obtain ⟨fd__law_state, T__law_state⟩ := c.def_ 9 (d := d__law_state) rfl
  have U__law_state : Fun K "_law_state" "_law_state" s__law_state (He.ga K "_law_state") fd__law_state := fun_of T__law_state
  have b__law_state : L2.Binds K fd__law_state ["script"] [] := T__law_state.bindsN fun _ _ _ _ _ _ us hl => match us, hl with | [_], _ => rfl
  have h__law_state : ∀ base, Cal P w K mg base CX0 "_law_state" ["script"] 1 (spSt K) := fun base => Cal.mk' U__law_state (ok__law_state B U__law_state ) (He.glo_ok X G (c.fact 9 (f := .glo "_law_state") rfl)) b__law_state
  obtain ⟨fd__law_take, T__law_take⟩ := c.def_ 10 (d := d__law_take) rfl
  have U__law_take : Fun K "_law_take" "_law_take" s__law_take (He.ga K "_law_take") fd__law_take := fun_of T__law_take
  have b__law_take : L2.Binds K fd__law_take ["state", "most"] [] := T__law_take.bindsN fun _ _ _ _ _ _ us hl => match us, hl with | [_, _], _ => rfl
  have h__law_take : ∀ base, Cal P w K mg base CX0 "_law_take" ["state", "most"] 1 (spW K 2 f__law_take) := fun base => Cal.mk' U__law_take (ok__law_take B U__law_take ) (He.glo_ok X G (c.fact 10 (f := .glo "_law_take") rfl)) b__law_take
  obtain ⟨fd__law_pick, T__law_pick⟩ := c.def_ 11 (d := d__law_pick) rfl
  have U__law_pick : Fun K "_law_pick" "_law_pick" s__law_pick (He.ga K "_law_pick") fd__law_pick := fun_of T__law_pick
  have b__law_pick : L2.Binds K fd__law_pick ["state", "row"] [] := T__law_pick.bindsN fun _ _ _ _ _ _ us hl => match us, hl with | [_, _], _ => rfl
  have h__law_pick : ∀ base, Cal P w K mg base CX0 "_law_pick" ["state", "row"] 2 (spW K 2 f__law_pick) := fun base => Cal.mk' U__law_pick (ok__law_pick B U__law_pick (h__law_take base)) (He.glo_ok X G (c.fact 11 (f := .glo "_law_pick") rfl)) b__law_pick
  obtain ⟨fd__law_digits, T__law_digits⟩ := c.def_ 12 (d := d__law_digits) rfl
  have U__law_digits : Fun K "_law_digits" "_law_digits" s__law_digits (He.ga K "_law_digits") fd__law_digits := fun_of T__law_digits
  have b__law_digits : L2.Binds K fd__law_digits ["number", "base", "many"] [] := T__law_digits.bindsN fun _ _ _ _ _ _ us hl => match us, hl with | [_, _, _], _ => rfl
  have h__law_digits : ∀ base, Cal P w K mg base CX0 "_law_digits" ["number", "base", "many"] 1 (spD0 K 3 (f__law_digits)) := fun base => Cal.mk' U__law_digits (ok__law_digits B U__law_digits ) (He.glo_ok X G (c.fact 12 (f := .glo "_law_digits") rfl)) b__law_digits
  obtain ⟨fd__law_field, T__law_field⟩ := c.def_ 13 (d := d__law_field) rfl
  have U__law_field : Fun K "_law_field" "_law_field" s__law_field (He.ga K "_law_field") fd__law_field := fun_of T__law_field
  have b__law_field : L2.Binds K fd__law_field ["size"] [] := T__law_field.bindsN fun _ _ _ _ _ _ us hl => match us, hl with | [_], _ => rfl
  have h__law_field : ∀ base, Cal P w K mg base CX0 "_law_field" ["size"] 2 (spD0 K 1 (f__law_field)) := fun base => Cal.mk' U__law_field (ok__law_field B U__law_field (h__law_digits base)) (He.glo_ok X G (c.fact 13 (f := .glo "_law_field") rfl)) b__law_field
  obtain ⟨fd__law_neg, T__law_neg⟩ := c.def_ 14 (d := d__law_neg) rfl
  have U__law_neg : Fun K "_law_neg" "_law_neg" s__law_neg (He.ga K "_law_neg") fd__law_neg := fun_of T__law_neg
  have b__law_neg : L2.Binds K fd__law_neg ["field", "one"] [] := T__law_neg.bindsN fun _ _ _ _ _ _ us hl => match us, hl with | [_, _], _ => rfl
  have h__law_neg : ∀ base, Cal P w K mg base CX0 "_law_neg" ["field", "one"] 1 (spD0 K 2 (f__law_neg)) := fun base => Cal.mk' U__law_neg (ok__law_neg B U__law_neg ) (He.glo_ok X G (c.fact 14 (f := .glo "_law_neg") rfl)) b__law_neg
  obtain ⟨fd__law_dot, T__law_dot⟩ := c.def_ 15 (d := d__law_dot) rfl
  have U__law_dot : Fun K "_law_dot" "_law_dot" s__law_dot (He.ga K "_law_dot") fd__law_dot := fun_of T__law_dot
  have b__law_dot : L2.Binds K fd__law_dot ["field", "one", "other"] [] := T__law_dot.bindsN fun _ _ _ _ _ _ us hl => match us, hl with | [_, _, _], _ => rfl
  have h__law_dot : ∀ base, Cal P w K mg base CX0 "_law_dot" ["field", "one", "other"] 1 (spD0 K 3 (f__law_dot)) := fun base => Cal.mk' U__law_dot (ok__law_dot B U__law_dot ) (He.glo_ok X G (c.fact 15 (f := .glo "_law_dot") rfl)) b__law_dot
  obtain ⟨fd__law_mix, T__law_mix⟩ := c.def_ 16 (d := d__law_mix) rfl
  have U__law_mix : Fun K "_law_mix" "_law_mix" s__law_mix (He.ga K "_law_mix") fd__law_mix := fun_of T__law_mix
  have b__law_mix : L2.Binds K fd__law_mix ["field", "rows", "shares", "wide"] [] := T__law_mix.bindsN fun _ _ _ _ _ _ us hl => match us, hl with | [_, _, _, _], _ => rfl
  have h__law_mix : ∀ base, Cal P w K mg base CX0 "_law_mix" ["field", "rows", "shares", "wide"] 1 (spD0 K 4 (f__law_mix)) := fun base => Cal.mk' U__law_mix (ok__law_mix B U__law_mix ) (He.glo_ok X G (c.fact 16 (f := .glo "_law_mix") rfl)) b__law_mix
  obtain ⟨fd__law_plain, T__law_plain⟩ := c.def_ 17 (d := d__law_plain) rfl
  have U__law_plain : Fun K "_law_plain" "_law_plain" s__law_plain (He.ga K "_law_plain") fd__law_plain := fun_of T__law_plain
  have b__law_plain : L2.Binds K fd__law_plain ["field", "rows"] [] := T__law_plain.bindsN fun _ _ _ _ _ _ us hl => match us, hl with | [_, _], _ => rfl
  have h__law_plain : ∀ base, Cal P w K mg base CX0 "_law_plain" ["field", "rows"] 2 (spD0 K 2 (f__law_plain)) := fun base => Cal.mk' U__law_plain (ok__law_plain B U__law_plain (h__law_neg base)) (He.glo_ok X G (c.fact 17 (f := .glo "_law_plain") rfl)) b__law_plain
  obtain ⟨fd__law_words, T__law_words⟩ := c.def_ 18 (d := d__law_words) rfl
  have U__law_words : Fun K "_law_words" "_law_words" s__law_words (He.ga K "_law_words") fd__law_words := fun_of T__law_words
  have b__law_words : L2.Binds K fd__law_words ["size", "many"] [] := T__law_words.bindsN fun _ _ _ _ _ _ us hl => match us, hl with | [_, _], _ => rfl
  have h__law_words : ∀ base, Cal P w K mg base CX0 "_law_words" ["size", "many"] 1 (spD0 K 2 (f__law_words)) := fun base => Cal.mk' U__law_words (ok__law_words B U__law_words ) (He.glo_ok X G (c.fact 18 (f := .glo "_law_words") rfl)) b__law_words
  obtain ⟨fd__law_all, T__law_all⟩ := c.def_ 19 (d := d__law_all) rfl
  have U__law_all : Fun K "_law_all" "_law_all" s__law_all (He.ga K "_law_all") fd__law_all := fun_of T__law_all
  have b__law_all : L2.Binds K fd__law_all ["field", "code"] [] := T__law_all.bindsN fun _ _ _ _ _ _ us hl => match us, hl with | [_, _], _ => rfl
  have h__law_all : ∀ base, Cal P w K mg base CX0 "_law_all" ["field", "code"] 2 (spD0 K 2 (f__law_all)) := fun base => Cal.mk' U__law_all (ok__law_all B U__law_all (h__law_words base) (h__law_mix base)) (He.glo_ok X G (c.fact 19 (f := .glo "_law_all") rfl)) b__law_all
  obtain ⟨fd__law_code, T__law_code⟩ := c.def_ 20 (d := d__law_code) rfl
  have U__law_code : Fun K "_law_code" "_law_code" s__law_code (He.ga K "_law_code") fd__law_code := fun_of T__law_code
  have b__law_code : L2.Binds K fd__law_code ["state", "sizes", "most", "limit"] [] := T__law_code.bindsN fun _ _ _ _ _ _ us hl => match us, hl with | [_, _, _, _], _ => rfl
  have h__law_code : ∀ base, Cal P w K mg base CX0 "_law_code" ["state", "sizes", "most", "limit"] 3 (spW K 4 f__law_code) := fun base => Cal.mk' U__law_code (ok__law_code B U__law_code (h__law_plain base) (h__law_take base) (h__law_field base) (h__law_pick base)) (He.glo_ok X G (c.fact 20 (f := .glo "_law_code") rfl)) b__law_code
  obtain ⟨fd__law_dual, T__law_dual⟩ := c.def_ 21 (d := d__law_dual) rfl
  have U__law_dual : Fun K "_law_dual" "_law_dual" s__law_dual (He.ga K "_law_dual") fd__law_dual := fun_of T__law_dual
  have b__law_dual : L2.Binds K fd__law_dual ["field", "code"] [] := T__law_dual.bindsN fun _ _ _ _ _ _ us hl => match us, hl with | [_, _], _ => rfl
  have h__law_dual : ∀ base, Cal P w K mg base CX0 "_law_dual" ["field", "code"] 3 (spD0 K 2 (f__law_dual)) := fun base => Cal.mk' U__law_dual (ok__law_dual B U__law_dual (h__law_plain base) (h__law_neg base)) (He.glo_ok X G (c.fact 21 (f := .glo "_law_dual") rfl)) b__law_dual
  obtain ⟨fd__law_weight, T__law_weight⟩ := c.def_ 22 (d := d__law_weight) rfl
  have U__law_weight : Fun K "_law_weight" "_law_weight" s__law_weight (He.ga K "_law_weight") fd__law_weight := fun_of T__law_weight
  have b__law_weight : L2.Binds K fd__law_weight ["word"] [] := T__law_weight.bindsN fun _ _ _ _ _ _ us hl => match us, hl with | [_], _ => rfl
  have h__law_weight : ∀ base, Cal P w K mg base CX0 "_law_weight" ["word"] 1 (spD0 K 1 (f__law_weight)) := fun base => Cal.mk' U__law_weight (ok__law_weight B U__law_weight ) (He.glo_ok X G (c.fact 22 (f := .glo "_law_weight") rfl)) b__law_weight
  obtain ⟨fd__law_far, T__law_far⟩ := c.def_ 23 (d := d__law_far) rfl
  have U__law_far : Fun K "_law_far" "_law_far" s__law_far (He.ga K "_law_far") fd__law_far := fun_of T__law_far
  have b__law_far : L2.Binds K fd__law_far ["one", "other"] [] := T__law_far.bindsN fun _ _ _ _ _ _ us hl => match us, hl with | [_, _], _ => rfl
  have h__law_far : ∀ base, Cal P w K mg base CX0 "_law_far" ["one", "other"] 1 (spD0 K 2 (f__law_far)) := fun base => Cal.mk' U__law_far (ok__law_far B U__law_far ) (He.glo_ok X G (c.fact 23 (f := .glo "_law_far") rfl)) b__law_far
  obtain ⟨fd__law_bits, T__law_bits⟩ := c.def_ 24 (d := d__law_bits) rfl
  have U__law_bits : Fun K "_law_bits" "_law_bits" s__law_bits (He.ga K "_law_bits") fd__law_bits := fun_of T__law_bits
  have b__law_bits : L2.Binds K fd__law_bits ["number", "many"] [] := T__law_bits.bindsN fun _ _ _ _ _ _ us hl => match us, hl with | [_, _], _ => rfl
  have h__law_bits : ∀ base, Cal P w K mg base CX0 "_law_bits" ["number", "many"] 1 (spD0 K 2 (f__law_bits)) := fun base => Cal.mk' U__law_bits (ok__law_bits B U__law_bits ) (He.glo_ok X G (c.fact 24 (f := .glo "_law_bits") rfl)) b__law_bits
  obtain ⟨fd__law_sum, T__law_sum⟩ := c.def_ 25 (d := d__law_sum) rfl
  have U__law_sum : Fun K "_law_sum" "_law_sum" s__law_sum (He.ga K "_law_sum") fd__law_sum := fun_of T__law_sum
  have b__law_sum : L2.Binds K fd__law_sum ["mask", "added", "many"] [] := T__law_sum.bindsN fun _ _ _ _ _ _ us hl => match us, hl with | [_, _, _], _ => rfl
  have h__law_sum : ∀ base, Cal P w K mg base CX0 "_law_sum" ["mask", "added", "many"] 2 (spD0 K 3 (f__law_sum)) := fun base => Cal.mk' U__law_sum (ok__law_sum B U__law_sum (h__law_words base) (h__law_bits base)) (He.glo_ok X G (c.fact 25 (f := .glo "_law_sum") rfl)) b__law_sum
  obtain ⟨fd_law, T_law⟩ := c.def_ 26 (d := d_law) rfl
  have e := hfa.symm.trans (He.glo_ok X G (c.fact 26 (f := .glo "law") rfl))
  cases e
  have bl := FunD.bindsA (ps := ["script"]) T_law fun _ _ _ _ _ _ us hl => match us, hl with | [_], _ => rfl
  have U_law : Fun K "law" "law" s_law (He.ga K "law") fd_law := fun_of T_law
  exact ⟨fd_law, fun s v => bl s [v] rfl, fun base _ _ => ok_law B U_law (h__law_state base) (h_flats base) (h__law_words base) (h__law_mix base) (h_plains base) (h__law_plain base) (h__law_field base) (h__law_take base) (h_nearest_sums base) (h__law_far base) (h__law_sum base) (h_is_bent base) (h_transform base) hp⟩
end FW

/-! Q16a: transforms written out. -/
namespace FW
open PySem PySem.Spec L2
open PyProof.Rows hiding St
def tN (xs : List Nat) : D := .tuple (xs.map nI)
def fdist (xs ys : List Nat) : Nat := ((List.range xs.length).filter fun k => xs.getD k 0 != ys.getD k 0).length
theorem sqp (a b : Int) : (a + b) * (a + b) + (a - b) * (a - b) = 2 * (a * a) + 2 * (b * b) := by grind
theorem sq2 : ∀ as bs : List Int, as.length = bs.length → ((List.zipWith (· + ·) as bs ++ List.zipWith (· - ·) as bs).map fun n => n * n).sum = 2 * ((as.map fun n => n * n).sum + (bs.map fun n => n * n).sum)
  | [], [], _ => rfl
  | a :: as, b :: bs, h => by
    have ih := sq2 as bs (by simpa using h)
    have s := sqp a b
    simp only [List.zipWith_cons_cons, List.cons_append, List.map_cons, List.map_append, List.sum_cons, List.sum_append] at ih ⊢
    omega
theorem lcons {α : Type} {a b : α} {l m : List α} (h : a = b) (t : l = m) : a :: l = b :: m := by rw [h, t]
def dotI : List Nat → List Nat → Int
  | x :: r, y :: w => (1 - 2 * (x : Int)) * (1 - 2 * (y : Int)) + dotI r w
  | _, _ => 0
theorem fdist_cons (x y : Nat) (r w : List Nat) : fdist (x :: r) (y :: w) = (if x = y then 0 else 1) + fdist r w := by
  unfold fdist
  rw [List.length_cons, List.range_succ_eq_map, List.filter_cons]
  have e : (List.filter (fun k => (x :: r).getD k 0 != (y :: w).getD k 0) ((List.range r.length).map Nat.succ)).length = (List.filter (fun k => r.getD k 0 != w.getD k 0) (List.range r.length)).length := by
    rw [List.filter_map, List.length_map]
    rfl
  by_cases h : x = y
  · simp only [List.getD_cons_zero, h, bne_self_eq_false, Bool.false_eq_true, if_false, if_true]
    have e2 := e
    rw [h] at e2
    simp only [List.getD_eq_getElem?_getD] at e2 ⊢
    rw [e2]
    simp
  · have hb : (x != y) = true := by simpa using h
    simp only [List.getD_cons_zero, hb, if_true, h, if_false, List.length_cons]
    simp only [List.getD_eq_getElem?_getD] at e ⊢
    rw [e]
    omega
theorem chi_far : ∀ {r w : List Nat}, (∀ x ∈ r, x < 2) → (∀ x ∈ w, x < 2) → r.length = w.length → (w.length : Int) - 2 * (fdist r w : Nat) = dotI r w
  | [], [], _, _, _ => rfl
  | x :: r, y :: w, hr, hw, hl => by
    have ih := chi_far (r := r) (w := w) (fun z hz => hr z (List.mem_cons_of_mem _ hz)) (fun z hz => hw z (List.mem_cons_of_mem _ hz)) (by simpa using hl)
    rw [fdist_cons]
    unfold dotI
    rw [← ih, List.length_cons]
    have h1 := hr x List.mem_cons_self
    have h2 := hw y List.mem_cons_self
    match x, y, h1, h2 with
    | 0, 0, _, _ => simp; omega
    | 0, 1, _, _ => simp; omega
    | 1, 0, _, _ => simp; omega
    | 1, 1, _, _ => simp; omega
    | _ + 2, _, h1, _ => omega
    | 0, _ + 2, _, h2 => omega
    | 1, _ + 2, _, h2 => omega
def T2 (y0 y1 : Int) : List Int := [(y0 + y1), (y0 - y1)]
theorem tr2 (x0 x1 : Nat) : f_transform [.tuple [nI x0, nI x1]] = .ok (.list ((T2 (1 - 2 * (x0 : Int)) (1 - 2 * (x1 : Int))).map PyData.int)) := by kernel_rfl
def T4 (y0 y1 y2 y3 : Int) : List Int := [((y0 + y1) + (y2 + y3)), ((y0 - y1) + (y2 - y3)), ((y0 + y1) - (y2 + y3)), ((y0 - y1) - (y2 - y3))]
theorem tr4 (x0 x1 x2 x3 : Nat) : f_transform [.tuple [nI x0, nI x1, nI x2, nI x3]] = .ok (.list ((T4 (1 - 2 * (x0 : Int)) (1 - 2 * (x1 : Int)) (1 - 2 * (x2 : Int)) (1 - 2 * (x3 : Int))).map PyData.int)) := by kernel_rfl
def T8 (y0 y1 y2 y3 y4 y5 y6 y7 : Int) : List Int := [(((y0 + y1) + (y2 + y3)) + ((y4 + y5) + (y6 + y7))), (((y0 - y1) + (y2 - y3)) + ((y4 - y5) + (y6 - y7))), (((y0 + y1) - (y2 + y3)) + ((y4 + y5) - (y6 + y7))), (((y0 - y1) - (y2 - y3)) + ((y4 - y5) - (y6 - y7))), (((y0 + y1) + (y2 + y3)) - ((y4 + y5) + (y6 + y7))), (((y0 - y1) + (y2 - y3)) - ((y4 - y5) + (y6 - y7))), (((y0 + y1) - (y2 + y3)) - ((y4 + y5) - (y6 + y7))), (((y0 - y1) - (y2 - y3)) - ((y4 - y5) - (y6 - y7)))]
theorem tr8 (x0 x1 x2 x3 x4 x5 x6 x7 : Nat) : f_transform [.tuple [nI x0, nI x1, nI x2, nI x3, nI x4, nI x5, nI x6, nI x7]] = .ok (.list ((T8 (1 - 2 * (x0 : Int)) (1 - 2 * (x1 : Int)) (1 - 2 * (x2 : Int)) (1 - 2 * (x3 : Int)) (1 - 2 * (x4 : Int)) (1 - 2 * (x5 : Int)) (1 - 2 * (x6 : Int)) (1 - 2 * (x7 : Int))).map PyData.int)) := by kernel_rfl
def T16 (y0 y1 y2 y3 y4 y5 y6 y7 y8 y9 y10 y11 y12 y13 y14 y15 : Int) : List Int := [((((y0 + y1) + (y2 + y3)) + ((y4 + y5) + (y6 + y7))) + (((y8 + y9) + (y10 + y11)) + ((y12 + y13) + (y14 + y15)))), ((((y0 - y1) + (y2 - y3)) + ((y4 - y5) + (y6 - y7))) + (((y8 - y9) + (y10 - y11)) + ((y12 - y13) + (y14 - y15)))), ((((y0 + y1) - (y2 + y3)) + ((y4 + y5) - (y6 + y7))) + (((y8 + y9) - (y10 + y11)) + ((y12 + y13) - (y14 + y15)))), ((((y0 - y1) - (y2 - y3)) + ((y4 - y5) - (y6 - y7))) + (((y8 - y9) - (y10 - y11)) + ((y12 - y13) - (y14 - y15)))), ((((y0 + y1) + (y2 + y3)) - ((y4 + y5) + (y6 + y7))) + (((y8 + y9) + (y10 + y11)) - ((y12 + y13) + (y14 + y15)))), ((((y0 - y1) + (y2 - y3)) - ((y4 - y5) + (y6 - y7))) + (((y8 - y9) + (y10 - y11)) - ((y12 - y13) + (y14 - y15)))), ((((y0 + y1) - (y2 + y3)) - ((y4 + y5) - (y6 + y7))) + (((y8 + y9) - (y10 + y11)) - ((y12 + y13) - (y14 + y15)))), ((((y0 - y1) - (y2 - y3)) - ((y4 - y5) - (y6 - y7))) + (((y8 - y9) - (y10 - y11)) - ((y12 - y13) - (y14 - y15)))), ((((y0 + y1) + (y2 + y3)) + ((y4 + y5) + (y6 + y7))) - (((y8 + y9) + (y10 + y11)) + ((y12 + y13) + (y14 + y15)))), ((((y0 - y1) + (y2 - y3)) + ((y4 - y5) + (y6 - y7))) - (((y8 - y9) + (y10 - y11)) + ((y12 - y13) + (y14 - y15)))), ((((y0 + y1) - (y2 + y3)) + ((y4 + y5) - (y6 + y7))) - (((y8 + y9) - (y10 + y11)) + ((y12 + y13) - (y14 + y15)))), ((((y0 - y1) - (y2 - y3)) + ((y4 - y5) - (y6 - y7))) - (((y8 - y9) - (y10 - y11)) + ((y12 - y13) - (y14 - y15)))), ((((y0 + y1) + (y2 + y3)) - ((y4 + y5) + (y6 + y7))) - (((y8 + y9) + (y10 + y11)) - ((y12 + y13) + (y14 + y15)))), ((((y0 - y1) + (y2 - y3)) - ((y4 - y5) + (y6 - y7))) - (((y8 - y9) + (y10 - y11)) - ((y12 - y13) + (y14 - y15)))), ((((y0 + y1) - (y2 + y3)) - ((y4 + y5) - (y6 + y7))) - (((y8 + y9) - (y10 + y11)) - ((y12 + y13) - (y14 + y15)))), ((((y0 - y1) - (y2 - y3)) - ((y4 - y5) - (y6 - y7))) - (((y8 - y9) - (y10 - y11)) - ((y12 - y13) - (y14 - y15))))]
theorem tr16 (x0 x1 x2 x3 x4 x5 x6 x7 x8 x9 x10 x11 x12 x13 x14 x15 : Nat) : f_transform [.tuple [nI x0, nI x1, nI x2, nI x3, nI x4, nI x5, nI x6, nI x7, nI x8, nI x9, nI x10, nI x11, nI x12, nI x13, nI x14, nI x15]] = .ok (.list ((T16 (1 - 2 * (x0 : Int)) (1 - 2 * (x1 : Int)) (1 - 2 * (x2 : Int)) (1 - 2 * (x3 : Int)) (1 - 2 * (x4 : Int)) (1 - 2 * (x5 : Int)) (1 - 2 * (x6 : Int)) (1 - 2 * (x7 : Int)) (1 - 2 * (x8 : Int)) (1 - 2 * (x9 : Int)) (1 - 2 * (x10 : Int)) (1 - 2 * (x11 : Int)) (1 - 2 * (x12 : Int)) (1 - 2 * (x13 : Int)) (1 - 2 * (x14 : Int)) (1 - 2 * (x15 : Int))).map PyData.int)) := by kernel_rfl
def rowF : Nat → Nat → Nat → List Nat
  | 1, 0, 0 => [0, 0]
  | 1, 0, 1 => [1, 1]
  | 1, 1, 0 => [0, 1]
  | 1, 1, 1 => [1, 0]
  | 2, 0, 0 => [0, 0, 0, 0]
  | 2, 0, 1 => [1, 1, 1, 1]
  | 2, 1, 0 => [0, 1, 0, 1]
  | 2, 1, 1 => [1, 0, 1, 0]
  | 2, 2, 0 => [0, 0, 1, 1]
  | 2, 2, 1 => [1, 1, 0, 0]
  | 2, 3, 0 => [0, 1, 1, 0]
  | 2, 3, 1 => [1, 0, 0, 1]
  | 3, 0, 0 => [0, 0, 0, 0, 0, 0, 0, 0]
  | 3, 0, 1 => [1, 1, 1, 1, 1, 1, 1, 1]
  | 3, 1, 0 => [0, 1, 0, 1, 0, 1, 0, 1]
  | 3, 1, 1 => [1, 0, 1, 0, 1, 0, 1, 0]
  | 3, 2, 0 => [0, 0, 1, 1, 0, 0, 1, 1]
  | 3, 2, 1 => [1, 1, 0, 0, 1, 1, 0, 0]
  | 3, 3, 0 => [0, 1, 1, 0, 0, 1, 1, 0]
  | 3, 3, 1 => [1, 0, 0, 1, 1, 0, 0, 1]
  | 3, 4, 0 => [0, 0, 0, 0, 1, 1, 1, 1]
  | 3, 4, 1 => [1, 1, 1, 1, 0, 0, 0, 0]
  | 3, 5, 0 => [0, 1, 0, 1, 1, 0, 1, 0]
  | 3, 5, 1 => [1, 0, 1, 0, 0, 1, 0, 1]
  | 3, 6, 0 => [0, 0, 1, 1, 1, 1, 0, 0]
  | 3, 6, 1 => [1, 1, 0, 0, 0, 0, 1, 1]
  | 3, 7, 0 => [0, 1, 1, 0, 1, 0, 0, 1]
  | 3, 7, 1 => [1, 0, 0, 1, 0, 1, 1, 0]
  | 4, 0, 0 => [0, 0, 0, 0, 0, 0, 0, 0, 0, 0, 0, 0, 0, 0, 0, 0]
  | 4, 0, 1 => [1, 1, 1, 1, 1, 1, 1, 1, 1, 1, 1, 1, 1, 1, 1, 1]
  | 4, 1, 0 => [0, 1, 0, 1, 0, 1, 0, 1, 0, 1, 0, 1, 0, 1, 0, 1]
  | 4, 1, 1 => [1, 0, 1, 0, 1, 0, 1, 0, 1, 0, 1, 0, 1, 0, 1, 0]
  | 4, 2, 0 => [0, 0, 1, 1, 0, 0, 1, 1, 0, 0, 1, 1, 0, 0, 1, 1]
  | 4, 2, 1 => [1, 1, 0, 0, 1, 1, 0, 0, 1, 1, 0, 0, 1, 1, 0, 0]
  | 4, 3, 0 => [0, 1, 1, 0, 0, 1, 1, 0, 0, 1, 1, 0, 0, 1, 1, 0]
  | 4, 3, 1 => [1, 0, 0, 1, 1, 0, 0, 1, 1, 0, 0, 1, 1, 0, 0, 1]
  | 4, 4, 0 => [0, 0, 0, 0, 1, 1, 1, 1, 0, 0, 0, 0, 1, 1, 1, 1]
  | 4, 4, 1 => [1, 1, 1, 1, 0, 0, 0, 0, 1, 1, 1, 1, 0, 0, 0, 0]
  | 4, 5, 0 => [0, 1, 0, 1, 1, 0, 1, 0, 0, 1, 0, 1, 1, 0, 1, 0]
  | 4, 5, 1 => [1, 0, 1, 0, 0, 1, 0, 1, 1, 0, 1, 0, 0, 1, 0, 1]
  | 4, 6, 0 => [0, 0, 1, 1, 1, 1, 0, 0, 0, 0, 1, 1, 1, 1, 0, 0]
  | 4, 6, 1 => [1, 1, 0, 0, 0, 0, 1, 1, 1, 1, 0, 0, 0, 0, 1, 1]
  | 4, 7, 0 => [0, 1, 1, 0, 1, 0, 0, 1, 0, 1, 1, 0, 1, 0, 0, 1]
  | 4, 7, 1 => [1, 0, 0, 1, 0, 1, 1, 0, 1, 0, 0, 1, 0, 1, 1, 0]
  | 4, 8, 0 => [0, 0, 0, 0, 0, 0, 0, 0, 1, 1, 1, 1, 1, 1, 1, 1]
  | 4, 8, 1 => [1, 1, 1, 1, 1, 1, 1, 1, 0, 0, 0, 0, 0, 0, 0, 0]
  | 4, 9, 0 => [0, 1, 0, 1, 0, 1, 0, 1, 1, 0, 1, 0, 1, 0, 1, 0]
  | 4, 9, 1 => [1, 0, 1, 0, 1, 0, 1, 0, 0, 1, 0, 1, 0, 1, 0, 1]
  | 4, 10, 0 => [0, 0, 1, 1, 0, 0, 1, 1, 1, 1, 0, 0, 1, 1, 0, 0]
  | 4, 10, 1 => [1, 1, 0, 0, 1, 1, 0, 0, 0, 0, 1, 1, 0, 0, 1, 1]
  | 4, 11, 0 => [0, 1, 1, 0, 0, 1, 1, 0, 1, 0, 0, 1, 1, 0, 0, 1]
  | 4, 11, 1 => [1, 0, 0, 1, 1, 0, 0, 1, 0, 1, 1, 0, 0, 1, 1, 0]
  | 4, 12, 0 => [0, 0, 0, 0, 1, 1, 1, 1, 1, 1, 1, 1, 0, 0, 0, 0]
  | 4, 12, 1 => [1, 1, 1, 1, 0, 0, 0, 0, 0, 0, 0, 0, 1, 1, 1, 1]
  | 4, 13, 0 => [0, 1, 0, 1, 1, 0, 1, 0, 1, 0, 1, 0, 0, 1, 0, 1]
  | 4, 13, 1 => [1, 0, 1, 0, 0, 1, 0, 1, 0, 1, 0, 1, 1, 0, 1, 0]
  | 4, 14, 0 => [0, 0, 1, 1, 1, 1, 0, 0, 1, 1, 0, 0, 0, 0, 1, 1]
  | 4, 14, 1 => [1, 1, 0, 0, 0, 0, 1, 1, 0, 0, 1, 1, 1, 1, 0, 0]
  | 4, 15, 0 => [0, 1, 1, 0, 1, 0, 0, 1, 1, 0, 0, 1, 0, 1, 1, 0]
  | 4, 15, 1 => [1, 0, 0, 1, 0, 1, 1, 0, 0, 1, 1, 0, 1, 0, 0, 1]
  | _, _, _ => []
def toldF (many : Nat) (w : List Nat) : List Int := (List.range (2 ^ many)).map fun mask => ((2 ^ many : Nat) : Int) - 2 * (fdist (rowF many mask 0) w : Nat)
theorem ls_1_0_0 : f__law_sum [.int 0, .int 0, .int 1] = .ok (tN [0, 0]) := by kernel_rfl
theorem ls_1_0_1 : f__law_sum [.int 0, .int 1, .int 1] = .ok (tN [1, 1]) := by kernel_rfl
theorem ls_1_1_0 : f__law_sum [.int 1, .int 0, .int 1] = .ok (tN [0, 1]) := by kernel_rfl
theorem ls_1_1_1 : f__law_sum [.int 1, .int 1, .int 1] = .ok (tN [1, 0]) := by kernel_rfl
theorem ls_2_0_0 : f__law_sum [.int 0, .int 0, .int 2] = .ok (tN [0, 0, 0, 0]) := by kernel_rfl
theorem ls_2_0_1 : f__law_sum [.int 0, .int 1, .int 2] = .ok (tN [1, 1, 1, 1]) := by kernel_rfl
theorem ls_2_1_0 : f__law_sum [.int 1, .int 0, .int 2] = .ok (tN [0, 1, 0, 1]) := by kernel_rfl
theorem ls_2_1_1 : f__law_sum [.int 1, .int 1, .int 2] = .ok (tN [1, 0, 1, 0]) := by kernel_rfl
theorem ls_2_2_0 : f__law_sum [.int 2, .int 0, .int 2] = .ok (tN [0, 0, 1, 1]) := by kernel_rfl
theorem ls_2_2_1 : f__law_sum [.int 2, .int 1, .int 2] = .ok (tN [1, 1, 0, 0]) := by kernel_rfl
theorem ls_2_3_0 : f__law_sum [.int 3, .int 0, .int 2] = .ok (tN [0, 1, 1, 0]) := by kernel_rfl
theorem ls_2_3_1 : f__law_sum [.int 3, .int 1, .int 2] = .ok (tN [1, 0, 0, 1]) := by kernel_rfl
theorem ls_3_0_0 : f__law_sum [.int 0, .int 0, .int 3] = .ok (tN [0, 0, 0, 0, 0, 0, 0, 0]) := by kernel_rfl
theorem ls_3_0_1 : f__law_sum [.int 0, .int 1, .int 3] = .ok (tN [1, 1, 1, 1, 1, 1, 1, 1]) := by kernel_rfl
theorem ls_3_1_0 : f__law_sum [.int 1, .int 0, .int 3] = .ok (tN [0, 1, 0, 1, 0, 1, 0, 1]) := by kernel_rfl
theorem ls_3_1_1 : f__law_sum [.int 1, .int 1, .int 3] = .ok (tN [1, 0, 1, 0, 1, 0, 1, 0]) := by kernel_rfl
theorem ls_3_2_0 : f__law_sum [.int 2, .int 0, .int 3] = .ok (tN [0, 0, 1, 1, 0, 0, 1, 1]) := by kernel_rfl
theorem ls_3_2_1 : f__law_sum [.int 2, .int 1, .int 3] = .ok (tN [1, 1, 0, 0, 1, 1, 0, 0]) := by kernel_rfl
theorem ls_3_3_0 : f__law_sum [.int 3, .int 0, .int 3] = .ok (tN [0, 1, 1, 0, 0, 1, 1, 0]) := by kernel_rfl
theorem ls_3_3_1 : f__law_sum [.int 3, .int 1, .int 3] = .ok (tN [1, 0, 0, 1, 1, 0, 0, 1]) := by kernel_rfl
theorem ls_3_4_0 : f__law_sum [.int 4, .int 0, .int 3] = .ok (tN [0, 0, 0, 0, 1, 1, 1, 1]) := by kernel_rfl
theorem ls_3_4_1 : f__law_sum [.int 4, .int 1, .int 3] = .ok (tN [1, 1, 1, 1, 0, 0, 0, 0]) := by kernel_rfl
theorem ls_3_5_0 : f__law_sum [.int 5, .int 0, .int 3] = .ok (tN [0, 1, 0, 1, 1, 0, 1, 0]) := by kernel_rfl
theorem ls_3_5_1 : f__law_sum [.int 5, .int 1, .int 3] = .ok (tN [1, 0, 1, 0, 0, 1, 0, 1]) := by kernel_rfl
theorem ls_3_6_0 : f__law_sum [.int 6, .int 0, .int 3] = .ok (tN [0, 0, 1, 1, 1, 1, 0, 0]) := by kernel_rfl
theorem ls_3_6_1 : f__law_sum [.int 6, .int 1, .int 3] = .ok (tN [1, 1, 0, 0, 0, 0, 1, 1]) := by kernel_rfl
theorem ls_3_7_0 : f__law_sum [.int 7, .int 0, .int 3] = .ok (tN [0, 1, 1, 0, 1, 0, 0, 1]) := by kernel_rfl
theorem ls_3_7_1 : f__law_sum [.int 7, .int 1, .int 3] = .ok (tN [1, 0, 0, 1, 0, 1, 1, 0]) := by kernel_rfl
theorem ls_4_0_0 : f__law_sum [.int 0, .int 0, .int 4] = .ok (tN [0, 0, 0, 0, 0, 0, 0, 0, 0, 0, 0, 0, 0, 0, 0, 0]) := by kernel_rfl
theorem ls_4_0_1 : f__law_sum [.int 0, .int 1, .int 4] = .ok (tN [1, 1, 1, 1, 1, 1, 1, 1, 1, 1, 1, 1, 1, 1, 1, 1]) := by kernel_rfl
theorem ls_4_1_0 : f__law_sum [.int 1, .int 0, .int 4] = .ok (tN [0, 1, 0, 1, 0, 1, 0, 1, 0, 1, 0, 1, 0, 1, 0, 1]) := by kernel_rfl
theorem ls_4_1_1 : f__law_sum [.int 1, .int 1, .int 4] = .ok (tN [1, 0, 1, 0, 1, 0, 1, 0, 1, 0, 1, 0, 1, 0, 1, 0]) := by kernel_rfl
theorem ls_4_2_0 : f__law_sum [.int 2, .int 0, .int 4] = .ok (tN [0, 0, 1, 1, 0, 0, 1, 1, 0, 0, 1, 1, 0, 0, 1, 1]) := by kernel_rfl
theorem ls_4_2_1 : f__law_sum [.int 2, .int 1, .int 4] = .ok (tN [1, 1, 0, 0, 1, 1, 0, 0, 1, 1, 0, 0, 1, 1, 0, 0]) := by kernel_rfl
theorem ls_4_3_0 : f__law_sum [.int 3, .int 0, .int 4] = .ok (tN [0, 1, 1, 0, 0, 1, 1, 0, 0, 1, 1, 0, 0, 1, 1, 0]) := by kernel_rfl
theorem ls_4_3_1 : f__law_sum [.int 3, .int 1, .int 4] = .ok (tN [1, 0, 0, 1, 1, 0, 0, 1, 1, 0, 0, 1, 1, 0, 0, 1]) := by kernel_rfl
theorem ls_4_4_0 : f__law_sum [.int 4, .int 0, .int 4] = .ok (tN [0, 0, 0, 0, 1, 1, 1, 1, 0, 0, 0, 0, 1, 1, 1, 1]) := by kernel_rfl
theorem ls_4_4_1 : f__law_sum [.int 4, .int 1, .int 4] = .ok (tN [1, 1, 1, 1, 0, 0, 0, 0, 1, 1, 1, 1, 0, 0, 0, 0]) := by kernel_rfl
theorem ls_4_5_0 : f__law_sum [.int 5, .int 0, .int 4] = .ok (tN [0, 1, 0, 1, 1, 0, 1, 0, 0, 1, 0, 1, 1, 0, 1, 0]) := by kernel_rfl
theorem ls_4_5_1 : f__law_sum [.int 5, .int 1, .int 4] = .ok (tN [1, 0, 1, 0, 0, 1, 0, 1, 1, 0, 1, 0, 0, 1, 0, 1]) := by kernel_rfl
theorem ls_4_6_0 : f__law_sum [.int 6, .int 0, .int 4] = .ok (tN [0, 0, 1, 1, 1, 1, 0, 0, 0, 0, 1, 1, 1, 1, 0, 0]) := by kernel_rfl
theorem ls_4_6_1 : f__law_sum [.int 6, .int 1, .int 4] = .ok (tN [1, 1, 0, 0, 0, 0, 1, 1, 1, 1, 0, 0, 0, 0, 1, 1]) := by kernel_rfl
theorem ls_4_7_0 : f__law_sum [.int 7, .int 0, .int 4] = .ok (tN [0, 1, 1, 0, 1, 0, 0, 1, 0, 1, 1, 0, 1, 0, 0, 1]) := by kernel_rfl
theorem ls_4_7_1 : f__law_sum [.int 7, .int 1, .int 4] = .ok (tN [1, 0, 0, 1, 0, 1, 1, 0, 1, 0, 0, 1, 0, 1, 1, 0]) := by kernel_rfl
theorem ls_4_8_0 : f__law_sum [.int 8, .int 0, .int 4] = .ok (tN [0, 0, 0, 0, 0, 0, 0, 0, 1, 1, 1, 1, 1, 1, 1, 1]) := by kernel_rfl
theorem ls_4_8_1 : f__law_sum [.int 8, .int 1, .int 4] = .ok (tN [1, 1, 1, 1, 1, 1, 1, 1, 0, 0, 0, 0, 0, 0, 0, 0]) := by kernel_rfl
theorem ls_4_9_0 : f__law_sum [.int 9, .int 0, .int 4] = .ok (tN [0, 1, 0, 1, 0, 1, 0, 1, 1, 0, 1, 0, 1, 0, 1, 0]) := by kernel_rfl
theorem ls_4_9_1 : f__law_sum [.int 9, .int 1, .int 4] = .ok (tN [1, 0, 1, 0, 1, 0, 1, 0, 0, 1, 0, 1, 0, 1, 0, 1]) := by kernel_rfl
theorem ls_4_10_0 : f__law_sum [.int 10, .int 0, .int 4] = .ok (tN [0, 0, 1, 1, 0, 0, 1, 1, 1, 1, 0, 0, 1, 1, 0, 0]) := by kernel_rfl
theorem ls_4_10_1 : f__law_sum [.int 10, .int 1, .int 4] = .ok (tN [1, 1, 0, 0, 1, 1, 0, 0, 0, 0, 1, 1, 0, 0, 1, 1]) := by kernel_rfl
theorem ls_4_11_0 : f__law_sum [.int 11, .int 0, .int 4] = .ok (tN [0, 1, 1, 0, 0, 1, 1, 0, 1, 0, 0, 1, 1, 0, 0, 1]) := by kernel_rfl
theorem ls_4_11_1 : f__law_sum [.int 11, .int 1, .int 4] = .ok (tN [1, 0, 0, 1, 1, 0, 0, 1, 0, 1, 1, 0, 0, 1, 1, 0]) := by kernel_rfl
theorem ls_4_12_0 : f__law_sum [.int 12, .int 0, .int 4] = .ok (tN [0, 0, 0, 0, 1, 1, 1, 1, 1, 1, 1, 1, 0, 0, 0, 0]) := by kernel_rfl
theorem ls_4_12_1 : f__law_sum [.int 12, .int 1, .int 4] = .ok (tN [1, 1, 1, 1, 0, 0, 0, 0, 0, 0, 0, 0, 1, 1, 1, 1]) := by kernel_rfl
theorem ls_4_13_0 : f__law_sum [.int 13, .int 0, .int 4] = .ok (tN [0, 1, 0, 1, 1, 0, 1, 0, 1, 0, 1, 0, 0, 1, 0, 1]) := by kernel_rfl
theorem ls_4_13_1 : f__law_sum [.int 13, .int 1, .int 4] = .ok (tN [1, 0, 1, 0, 0, 1, 0, 1, 0, 1, 0, 1, 1, 0, 1, 0]) := by kernel_rfl
theorem ls_4_14_0 : f__law_sum [.int 14, .int 0, .int 4] = .ok (tN [0, 0, 1, 1, 1, 1, 0, 0, 1, 1, 0, 0, 0, 0, 1, 1]) := by kernel_rfl
theorem ls_4_14_1 : f__law_sum [.int 14, .int 1, .int 4] = .ok (tN [1, 1, 0, 0, 0, 0, 1, 1, 0, 0, 1, 1, 1, 1, 0, 0]) := by kernel_rfl
theorem ls_4_15_0 : f__law_sum [.int 15, .int 0, .int 4] = .ok (tN [0, 1, 1, 0, 1, 0, 0, 1, 1, 0, 0, 1, 0, 1, 1, 0]) := by kernel_rfl
theorem ls_4_15_1 : f__law_sum [.int 15, .int 1, .int 4] = .ok (tN [1, 0, 0, 1, 0, 1, 1, 0, 0, 1, 1, 0, 1, 0, 0, 1]) := by kernel_rfl
theorem ls1 : ∀ mask < 2, ∀ add < 2, f__law_sum [.int (mask : Nat), .int (add : Nat), .int 1] = .ok (tN (rowF 1 mask add)) := fun mask h add h2 => match mask, add, h, h2 with
  | 0, 0, _, _ => ls_1_0_0
  | 0, 1, _, _ => ls_1_0_1
  | 1, 0, _, _ => ls_1_1_0
  | 1, 1, _, _ => ls_1_1_1
  | _, n + 2, _, h2 => absurd h2 (by omega)
  | n + 2, _, h, _ => absurd h (by omega)
theorem ls2 : ∀ mask < 4, ∀ add < 2, f__law_sum [.int (mask : Nat), .int (add : Nat), .int 2] = .ok (tN (rowF 2 mask add)) := fun mask h add h2 => match mask, add, h, h2 with
  | 0, 0, _, _ => ls_2_0_0
  | 0, 1, _, _ => ls_2_0_1
  | 1, 0, _, _ => ls_2_1_0
  | 1, 1, _, _ => ls_2_1_1
  | 2, 0, _, _ => ls_2_2_0
  | 2, 1, _, _ => ls_2_2_1
  | 3, 0, _, _ => ls_2_3_0
  | 3, 1, _, _ => ls_2_3_1
  | _, n + 2, _, h2 => absurd h2 (by omega)
  | n + 4, _, h, _ => absurd h (by omega)
theorem ls3 : ∀ mask < 8, ∀ add < 2, f__law_sum [.int (mask : Nat), .int (add : Nat), .int 3] = .ok (tN (rowF 3 mask add)) := fun mask h add h2 => match mask, add, h, h2 with
  | 0, 0, _, _ => ls_3_0_0
  | 0, 1, _, _ => ls_3_0_1
  | 1, 0, _, _ => ls_3_1_0
  | 1, 1, _, _ => ls_3_1_1
  | 2, 0, _, _ => ls_3_2_0
  | 2, 1, _, _ => ls_3_2_1
  | 3, 0, _, _ => ls_3_3_0
  | 3, 1, _, _ => ls_3_3_1
  | 4, 0, _, _ => ls_3_4_0
  | 4, 1, _, _ => ls_3_4_1
  | 5, 0, _, _ => ls_3_5_0
  | 5, 1, _, _ => ls_3_5_1
  | 6, 0, _, _ => ls_3_6_0
  | 6, 1, _, _ => ls_3_6_1
  | 7, 0, _, _ => ls_3_7_0
  | 7, 1, _, _ => ls_3_7_1
  | _, n + 2, _, h2 => absurd h2 (by omega)
  | n + 8, _, h, _ => absurd h (by omega)
theorem ls4 : ∀ mask < 16, ∀ add < 2, f__law_sum [.int (mask : Nat), .int (add : Nat), .int 4] = .ok (tN (rowF 4 mask add)) := fun mask h add h2 => match mask, add, h, h2 with
  | 0, 0, _, _ => ls_4_0_0
  | 0, 1, _, _ => ls_4_0_1
  | 1, 0, _, _ => ls_4_1_0
  | 1, 1, _, _ => ls_4_1_1
  | 2, 0, _, _ => ls_4_2_0
  | 2, 1, _, _ => ls_4_2_1
  | 3, 0, _, _ => ls_4_3_0
  | 3, 1, _, _ => ls_4_3_1
  | 4, 0, _, _ => ls_4_4_0
  | 4, 1, _, _ => ls_4_4_1
  | 5, 0, _, _ => ls_4_5_0
  | 5, 1, _, _ => ls_4_5_1
  | 6, 0, _, _ => ls_4_6_0
  | 6, 1, _, _ => ls_4_6_1
  | 7, 0, _, _ => ls_4_7_0
  | 7, 1, _, _ => ls_4_7_1
  | 8, 0, _, _ => ls_4_8_0
  | 8, 1, _, _ => ls_4_8_1
  | 9, 0, _, _ => ls_4_9_0
  | 9, 1, _, _ => ls_4_9_1
  | 10, 0, _, _ => ls_4_10_0
  | 10, 1, _, _ => ls_4_10_1
  | 11, 0, _, _ => ls_4_11_0
  | 11, 1, _, _ => ls_4_11_1
  | 12, 0, _, _ => ls_4_12_0
  | 12, 1, _, _ => ls_4_12_1
  | 13, 0, _, _ => ls_4_13_0
  | 13, 1, _, _ => ls_4_13_1
  | 14, 0, _, _ => ls_4_14_0
  | 14, 1, _, _ => ls_4_14_1
  | 15, 0, _, _ => ls_4_15_0
  | 15, 1, _, _ => ls_4_15_1
  | _, n + 2, _, h2 => absurd h2 (by omega)
  | n + 16, _, h, _ => absurd h (by omega)
theorem ps2 (y0 y1 : Int) (h0 : y0 * y0 = 1) (h1 : y1 * y1 = 1) : ((T2 y0 y1).map fun n => n * n).sum = 4 := by
  have e := sq2 [y0] [y1] rfl
  have e2 : T2 y0 y1 = List.zipWith (· + ·) [y0] [y1] ++ List.zipWith (· - ·) [y0] [y1] := rfl
  rw [e2, e]
  simp only [List.map_cons, List.map_nil, List.sum_cons, List.sum_nil, h0, h1]
  rfl
theorem ps4 (y0 y1 y2 y3 : Int) (h0 : y0 * y0 = 1) (h1 : y1 * y1 = 1) (h2 : y2 * y2 = 1) (h3 : y3 * y3 = 1) : ((T4 y0 y1 y2 y3).map fun n => n * n).sum = 16 := by
  have e := sq2 (T2 y0 y1) (T2 y2 y3) rfl
  have e2 : T4 y0 y1 y2 y3 = List.zipWith (· + ·) (T2 y0 y1) (T2 y2 y3) ++ List.zipWith (· - ·) (T2 y0 y1) (T2 y2 y3) := rfl
  rw [e2, e, ps2 y0 y1 h0 h1, ps2 y2 y3 h2 h3]
  rfl
theorem ps8 (y0 y1 y2 y3 y4 y5 y6 y7 : Int) (h0 : y0 * y0 = 1) (h1 : y1 * y1 = 1) (h2 : y2 * y2 = 1) (h3 : y3 * y3 = 1) (h4 : y4 * y4 = 1) (h5 : y5 * y5 = 1) (h6 : y6 * y6 = 1) (h7 : y7 * y7 = 1) : ((T8 y0 y1 y2 y3 y4 y5 y6 y7).map fun n => n * n).sum = 64 := by
  have e := sq2 (T4 y0 y1 y2 y3) (T4 y4 y5 y6 y7) rfl
  have e2 : T8 y0 y1 y2 y3 y4 y5 y6 y7 = List.zipWith (· + ·) (T4 y0 y1 y2 y3) (T4 y4 y5 y6 y7) ++ List.zipWith (· - ·) (T4 y0 y1 y2 y3) (T4 y4 y5 y6 y7) := rfl
  rw [e2, e, ps4 y0 y1 y2 y3 h0 h1 h2 h3, ps4 y4 y5 y6 y7 h4 h5 h6 h7]
  rfl
theorem ps16 (y0 y1 y2 y3 y4 y5 y6 y7 y8 y9 y10 y11 y12 y13 y14 y15 : Int) (h0 : y0 * y0 = 1) (h1 : y1 * y1 = 1) (h2 : y2 * y2 = 1) (h3 : y3 * y3 = 1) (h4 : y4 * y4 = 1) (h5 : y5 * y5 = 1) (h6 : y6 * y6 = 1) (h7 : y7 * y7 = 1) (h8 : y8 * y8 = 1) (h9 : y9 * y9 = 1) (h10 : y10 * y10 = 1) (h11 : y11 * y11 = 1) (h12 : y12 * y12 = 1) (h13 : y13 * y13 = 1) (h14 : y14 * y14 = 1) (h15 : y15 * y15 = 1) : ((T16 y0 y1 y2 y3 y4 y5 y6 y7 y8 y9 y10 y11 y12 y13 y14 y15).map fun n => n * n).sum = 256 := by
  have e := sq2 (T8 y0 y1 y2 y3 y4 y5 y6 y7) (T8 y8 y9 y10 y11 y12 y13 y14 y15) rfl
  have e2 : T16 y0 y1 y2 y3 y4 y5 y6 y7 y8 y9 y10 y11 y12 y13 y14 y15 = List.zipWith (· + ·) (T8 y0 y1 y2 y3 y4 y5 y6 y7) (T8 y8 y9 y10 y11 y12 y13 y14 y15) ++ List.zipWith (· - ·) (T8 y0 y1 y2 y3 y4 y5 y6 y7) (T8 y8 y9 y10 y11 y12 y13 y14 y15) := rfl
  rw [e2, e, ps8 y0 y1 y2 y3 y4 y5 y6 y7 h0 h1 h2 h3 h4 h5 h6 h7, ps8 y8 y9 y10 y11 y12 y13 y14 y15 h8 h9 h10 h11 h12 h13 h14 h15]
  rfl
theorem td2 (x0 x1 : Nat) (hw : ∀ z ∈ [x0, x1], z < 2) : T2 (1 - 2 * (x0 : Int)) (1 - 2 * (x1 : Int)) = toldF 1 [x0, x1] := by
  have q0 : ((1 - 2 * (x0 : Int)) + (1 - 2 * (x1 : Int))) = ((2 ^ 1 : Nat) : Int) - 2 * (fdist (rowF 1 0 0) [x0, x1] : Nat) := by
    refine Eq.trans ?_ (chi_far (r := rowF 1 0 0) (w := [x0, x1]) (by decide) hw rfl).symm
    show _ = (1 - 2 * ((0 : Nat) : Int)) * (1 - 2 * (x0 : Int)) + ((1 - 2 * ((0 : Nat) : Int)) * (1 - 2 * (x1 : Int)) + (0))
    omega
  have q1 : ((1 - 2 * (x0 : Int)) - (1 - 2 * (x1 : Int))) = ((2 ^ 1 : Nat) : Int) - 2 * (fdist (rowF 1 1 0) [x0, x1] : Nat) := by
    refine Eq.trans ?_ (chi_far (r := rowF 1 1 0) (w := [x0, x1]) (by decide) hw rfl).symm
    show _ = (1 - 2 * ((0 : Nat) : Int)) * (1 - 2 * (x0 : Int)) + ((1 - 2 * ((1 : Nat) : Int)) * (1 - 2 * (x1 : Int)) + (0))
    omega
  exact (lcons q0 (lcons q1 rfl))
theorem td4 (x0 x1 x2 x3 : Nat) (hw : ∀ z ∈ [x0, x1, x2, x3], z < 2) : T4 (1 - 2 * (x0 : Int)) (1 - 2 * (x1 : Int)) (1 - 2 * (x2 : Int)) (1 - 2 * (x3 : Int)) = toldF 2 [x0, x1, x2, x3] := by
  have q0 : (((1 - 2 * (x0 : Int)) + (1 - 2 * (x1 : Int))) + ((1 - 2 * (x2 : Int)) + (1 - 2 * (x3 : Int)))) = ((2 ^ 2 : Nat) : Int) - 2 * (fdist (rowF 2 0 0) [x0, x1, x2, x3] : Nat) := by
    refine Eq.trans ?_ (chi_far (r := rowF 2 0 0) (w := [x0, x1, x2, x3]) (by decide) hw rfl).symm
    show _ = (1 - 2 * ((0 : Nat) : Int)) * (1 - 2 * (x0 : Int)) + ((1 - 2 * ((0 : Nat) : Int)) * (1 - 2 * (x1 : Int)) + ((1 - 2 * ((0 : Nat) : Int)) * (1 - 2 * (x2 : Int)) + ((1 - 2 * ((0 : Nat) : Int)) * (1 - 2 * (x3 : Int)) + (0))))
    omega
  have q1 : (((1 - 2 * (x0 : Int)) - (1 - 2 * (x1 : Int))) + ((1 - 2 * (x2 : Int)) - (1 - 2 * (x3 : Int)))) = ((2 ^ 2 : Nat) : Int) - 2 * (fdist (rowF 2 1 0) [x0, x1, x2, x3] : Nat) := by
    refine Eq.trans ?_ (chi_far (r := rowF 2 1 0) (w := [x0, x1, x2, x3]) (by decide) hw rfl).symm
    show _ = (1 - 2 * ((0 : Nat) : Int)) * (1 - 2 * (x0 : Int)) + ((1 - 2 * ((1 : Nat) : Int)) * (1 - 2 * (x1 : Int)) + ((1 - 2 * ((0 : Nat) : Int)) * (1 - 2 * (x2 : Int)) + ((1 - 2 * ((1 : Nat) : Int)) * (1 - 2 * (x3 : Int)) + (0))))
    omega
  have q2 : (((1 - 2 * (x0 : Int)) + (1 - 2 * (x1 : Int))) - ((1 - 2 * (x2 : Int)) + (1 - 2 * (x3 : Int)))) = ((2 ^ 2 : Nat) : Int) - 2 * (fdist (rowF 2 2 0) [x0, x1, x2, x3] : Nat) := by
    refine Eq.trans ?_ (chi_far (r := rowF 2 2 0) (w := [x0, x1, x2, x3]) (by decide) hw rfl).symm
    show _ = (1 - 2 * ((0 : Nat) : Int)) * (1 - 2 * (x0 : Int)) + ((1 - 2 * ((0 : Nat) : Int)) * (1 - 2 * (x1 : Int)) + ((1 - 2 * ((1 : Nat) : Int)) * (1 - 2 * (x2 : Int)) + ((1 - 2 * ((1 : Nat) : Int)) * (1 - 2 * (x3 : Int)) + (0))))
    omega
  have q3 : (((1 - 2 * (x0 : Int)) - (1 - 2 * (x1 : Int))) - ((1 - 2 * (x2 : Int)) - (1 - 2 * (x3 : Int)))) = ((2 ^ 2 : Nat) : Int) - 2 * (fdist (rowF 2 3 0) [x0, x1, x2, x3] : Nat) := by
    refine Eq.trans ?_ (chi_far (r := rowF 2 3 0) (w := [x0, x1, x2, x3]) (by decide) hw rfl).symm
    show _ = (1 - 2 * ((0 : Nat) : Int)) * (1 - 2 * (x0 : Int)) + ((1 - 2 * ((1 : Nat) : Int)) * (1 - 2 * (x1 : Int)) + ((1 - 2 * ((1 : Nat) : Int)) * (1 - 2 * (x2 : Int)) + ((1 - 2 * ((0 : Nat) : Int)) * (1 - 2 * (x3 : Int)) + (0))))
    omega
  exact (lcons q0 (lcons q1 (lcons q2 (lcons q3 rfl))))
theorem td8 (x0 x1 x2 x3 x4 x5 x6 x7 : Nat) (hw : ∀ z ∈ [x0, x1, x2, x3, x4, x5, x6, x7], z < 2) : T8 (1 - 2 * (x0 : Int)) (1 - 2 * (x1 : Int)) (1 - 2 * (x2 : Int)) (1 - 2 * (x3 : Int)) (1 - 2 * (x4 : Int)) (1 - 2 * (x5 : Int)) (1 - 2 * (x6 : Int)) (1 - 2 * (x7 : Int)) = toldF 3 [x0, x1, x2, x3, x4, x5, x6, x7] := by
  have q0 : ((((1 - 2 * (x0 : Int)) + (1 - 2 * (x1 : Int))) + ((1 - 2 * (x2 : Int)) + (1 - 2 * (x3 : Int)))) + (((1 - 2 * (x4 : Int)) + (1 - 2 * (x5 : Int))) + ((1 - 2 * (x6 : Int)) + (1 - 2 * (x7 : Int))))) = ((2 ^ 3 : Nat) : Int) - 2 * (fdist (rowF 3 0 0) [x0, x1, x2, x3, x4, x5, x6, x7] : Nat) := by
    refine Eq.trans ?_ (chi_far (r := rowF 3 0 0) (w := [x0, x1, x2, x3, x4, x5, x6, x7]) (by decide) hw rfl).symm
    show _ = (1 - 2 * ((0 : Nat) : Int)) * (1 - 2 * (x0 : Int)) + ((1 - 2 * ((0 : Nat) : Int)) * (1 - 2 * (x1 : Int)) + ((1 - 2 * ((0 : Nat) : Int)) * (1 - 2 * (x2 : Int)) + ((1 - 2 * ((0 : Nat) : Int)) * (1 - 2 * (x3 : Int)) + ((1 - 2 * ((0 : Nat) : Int)) * (1 - 2 * (x4 : Int)) + ((1 - 2 * ((0 : Nat) : Int)) * (1 - 2 * (x5 : Int)) + ((1 - 2 * ((0 : Nat) : Int)) * (1 - 2 * (x6 : Int)) + ((1 - 2 * ((0 : Nat) : Int)) * (1 - 2 * (x7 : Int)) + (0))))))))
    omega
  have q1 : ((((1 - 2 * (x0 : Int)) - (1 - 2 * (x1 : Int))) + ((1 - 2 * (x2 : Int)) - (1 - 2 * (x3 : Int)))) + (((1 - 2 * (x4 : Int)) - (1 - 2 * (x5 : Int))) + ((1 - 2 * (x6 : Int)) - (1 - 2 * (x7 : Int))))) = ((2 ^ 3 : Nat) : Int) - 2 * (fdist (rowF 3 1 0) [x0, x1, x2, x3, x4, x5, x6, x7] : Nat) := by
    refine Eq.trans ?_ (chi_far (r := rowF 3 1 0) (w := [x0, x1, x2, x3, x4, x5, x6, x7]) (by decide) hw rfl).symm
    show _ = (1 - 2 * ((0 : Nat) : Int)) * (1 - 2 * (x0 : Int)) + ((1 - 2 * ((1 : Nat) : Int)) * (1 - 2 * (x1 : Int)) + ((1 - 2 * ((0 : Nat) : Int)) * (1 - 2 * (x2 : Int)) + ((1 - 2 * ((1 : Nat) : Int)) * (1 - 2 * (x3 : Int)) + ((1 - 2 * ((0 : Nat) : Int)) * (1 - 2 * (x4 : Int)) + ((1 - 2 * ((1 : Nat) : Int)) * (1 - 2 * (x5 : Int)) + ((1 - 2 * ((0 : Nat) : Int)) * (1 - 2 * (x6 : Int)) + ((1 - 2 * ((1 : Nat) : Int)) * (1 - 2 * (x7 : Int)) + (0))))))))
    omega
  have q2 : ((((1 - 2 * (x0 : Int)) + (1 - 2 * (x1 : Int))) - ((1 - 2 * (x2 : Int)) + (1 - 2 * (x3 : Int)))) + (((1 - 2 * (x4 : Int)) + (1 - 2 * (x5 : Int))) - ((1 - 2 * (x6 : Int)) + (1 - 2 * (x7 : Int))))) = ((2 ^ 3 : Nat) : Int) - 2 * (fdist (rowF 3 2 0) [x0, x1, x2, x3, x4, x5, x6, x7] : Nat) := by
    refine Eq.trans ?_ (chi_far (r := rowF 3 2 0) (w := [x0, x1, x2, x3, x4, x5, x6, x7]) (by decide) hw rfl).symm
    show _ = (1 - 2 * ((0 : Nat) : Int)) * (1 - 2 * (x0 : Int)) + ((1 - 2 * ((0 : Nat) : Int)) * (1 - 2 * (x1 : Int)) + ((1 - 2 * ((1 : Nat) : Int)) * (1 - 2 * (x2 : Int)) + ((1 - 2 * ((1 : Nat) : Int)) * (1 - 2 * (x3 : Int)) + ((1 - 2 * ((0 : Nat) : Int)) * (1 - 2 * (x4 : Int)) + ((1 - 2 * ((0 : Nat) : Int)) * (1 - 2 * (x5 : Int)) + ((1 - 2 * ((1 : Nat) : Int)) * (1 - 2 * (x6 : Int)) + ((1 - 2 * ((1 : Nat) : Int)) * (1 - 2 * (x7 : Int)) + (0))))))))
    omega
  have q3 : ((((1 - 2 * (x0 : Int)) - (1 - 2 * (x1 : Int))) - ((1 - 2 * (x2 : Int)) - (1 - 2 * (x3 : Int)))) + (((1 - 2 * (x4 : Int)) - (1 - 2 * (x5 : Int))) - ((1 - 2 * (x6 : Int)) - (1 - 2 * (x7 : Int))))) = ((2 ^ 3 : Nat) : Int) - 2 * (fdist (rowF 3 3 0) [x0, x1, x2, x3, x4, x5, x6, x7] : Nat) := by
    refine Eq.trans ?_ (chi_far (r := rowF 3 3 0) (w := [x0, x1, x2, x3, x4, x5, x6, x7]) (by decide) hw rfl).symm
    show _ = (1 - 2 * ((0 : Nat) : Int)) * (1 - 2 * (x0 : Int)) + ((1 - 2 * ((1 : Nat) : Int)) * (1 - 2 * (x1 : Int)) + ((1 - 2 * ((1 : Nat) : Int)) * (1 - 2 * (x2 : Int)) + ((1 - 2 * ((0 : Nat) : Int)) * (1 - 2 * (x3 : Int)) + ((1 - 2 * ((0 : Nat) : Int)) * (1 - 2 * (x4 : Int)) + ((1 - 2 * ((1 : Nat) : Int)) * (1 - 2 * (x5 : Int)) + ((1 - 2 * ((1 : Nat) : Int)) * (1 - 2 * (x6 : Int)) + ((1 - 2 * ((0 : Nat) : Int)) * (1 - 2 * (x7 : Int)) + (0))))))))
    omega
  have q4 : ((((1 - 2 * (x0 : Int)) + (1 - 2 * (x1 : Int))) + ((1 - 2 * (x2 : Int)) + (1 - 2 * (x3 : Int)))) - (((1 - 2 * (x4 : Int)) + (1 - 2 * (x5 : Int))) + ((1 - 2 * (x6 : Int)) + (1 - 2 * (x7 : Int))))) = ((2 ^ 3 : Nat) : Int) - 2 * (fdist (rowF 3 4 0) [x0, x1, x2, x3, x4, x5, x6, x7] : Nat) := by
    refine Eq.trans ?_ (chi_far (r := rowF 3 4 0) (w := [x0, x1, x2, x3, x4, x5, x6, x7]) (by decide) hw rfl).symm
    show _ = (1 - 2 * ((0 : Nat) : Int)) * (1 - 2 * (x0 : Int)) + ((1 - 2 * ((0 : Nat) : Int)) * (1 - 2 * (x1 : Int)) + ((1 - 2 * ((0 : Nat) : Int)) * (1 - 2 * (x2 : Int)) + ((1 - 2 * ((0 : Nat) : Int)) * (1 - 2 * (x3 : Int)) + ((1 - 2 * ((1 : Nat) : Int)) * (1 - 2 * (x4 : Int)) + ((1 - 2 * ((1 : Nat) : Int)) * (1 - 2 * (x5 : Int)) + ((1 - 2 * ((1 : Nat) : Int)) * (1 - 2 * (x6 : Int)) + ((1 - 2 * ((1 : Nat) : Int)) * (1 - 2 * (x7 : Int)) + (0))))))))
    omega
  have q5 : ((((1 - 2 * (x0 : Int)) - (1 - 2 * (x1 : Int))) + ((1 - 2 * (x2 : Int)) - (1 - 2 * (x3 : Int)))) - (((1 - 2 * (x4 : Int)) - (1 - 2 * (x5 : Int))) + ((1 - 2 * (x6 : Int)) - (1 - 2 * (x7 : Int))))) = ((2 ^ 3 : Nat) : Int) - 2 * (fdist (rowF 3 5 0) [x0, x1, x2, x3, x4, x5, x6, x7] : Nat) := by
    refine Eq.trans ?_ (chi_far (r := rowF 3 5 0) (w := [x0, x1, x2, x3, x4, x5, x6, x7]) (by decide) hw rfl).symm
    show _ = (1 - 2 * ((0 : Nat) : Int)) * (1 - 2 * (x0 : Int)) + ((1 - 2 * ((1 : Nat) : Int)) * (1 - 2 * (x1 : Int)) + ((1 - 2 * ((0 : Nat) : Int)) * (1 - 2 * (x2 : Int)) + ((1 - 2 * ((1 : Nat) : Int)) * (1 - 2 * (x3 : Int)) + ((1 - 2 * ((1 : Nat) : Int)) * (1 - 2 * (x4 : Int)) + ((1 - 2 * ((0 : Nat) : Int)) * (1 - 2 * (x5 : Int)) + ((1 - 2 * ((1 : Nat) : Int)) * (1 - 2 * (x6 : Int)) + ((1 - 2 * ((0 : Nat) : Int)) * (1 - 2 * (x7 : Int)) + (0))))))))
    omega
  have q6 : ((((1 - 2 * (x0 : Int)) + (1 - 2 * (x1 : Int))) - ((1 - 2 * (x2 : Int)) + (1 - 2 * (x3 : Int)))) - (((1 - 2 * (x4 : Int)) + (1 - 2 * (x5 : Int))) - ((1 - 2 * (x6 : Int)) + (1 - 2 * (x7 : Int))))) = ((2 ^ 3 : Nat) : Int) - 2 * (fdist (rowF 3 6 0) [x0, x1, x2, x3, x4, x5, x6, x7] : Nat) := by
    refine Eq.trans ?_ (chi_far (r := rowF 3 6 0) (w := [x0, x1, x2, x3, x4, x5, x6, x7]) (by decide) hw rfl).symm
    show _ = (1 - 2 * ((0 : Nat) : Int)) * (1 - 2 * (x0 : Int)) + ((1 - 2 * ((0 : Nat) : Int)) * (1 - 2 * (x1 : Int)) + ((1 - 2 * ((1 : Nat) : Int)) * (1 - 2 * (x2 : Int)) + ((1 - 2 * ((1 : Nat) : Int)) * (1 - 2 * (x3 : Int)) + ((1 - 2 * ((1 : Nat) : Int)) * (1 - 2 * (x4 : Int)) + ((1 - 2 * ((1 : Nat) : Int)) * (1 - 2 * (x5 : Int)) + ((1 - 2 * ((0 : Nat) : Int)) * (1 - 2 * (x6 : Int)) + ((1 - 2 * ((0 : Nat) : Int)) * (1 - 2 * (x7 : Int)) + (0))))))))
    omega
  have q7 : ((((1 - 2 * (x0 : Int)) - (1 - 2 * (x1 : Int))) - ((1 - 2 * (x2 : Int)) - (1 - 2 * (x3 : Int)))) - (((1 - 2 * (x4 : Int)) - (1 - 2 * (x5 : Int))) - ((1 - 2 * (x6 : Int)) - (1 - 2 * (x7 : Int))))) = ((2 ^ 3 : Nat) : Int) - 2 * (fdist (rowF 3 7 0) [x0, x1, x2, x3, x4, x5, x6, x7] : Nat) := by
    refine Eq.trans ?_ (chi_far (r := rowF 3 7 0) (w := [x0, x1, x2, x3, x4, x5, x6, x7]) (by decide) hw rfl).symm
    show _ = (1 - 2 * ((0 : Nat) : Int)) * (1 - 2 * (x0 : Int)) + ((1 - 2 * ((1 : Nat) : Int)) * (1 - 2 * (x1 : Int)) + ((1 - 2 * ((1 : Nat) : Int)) * (1 - 2 * (x2 : Int)) + ((1 - 2 * ((0 : Nat) : Int)) * (1 - 2 * (x3 : Int)) + ((1 - 2 * ((1 : Nat) : Int)) * (1 - 2 * (x4 : Int)) + ((1 - 2 * ((0 : Nat) : Int)) * (1 - 2 * (x5 : Int)) + ((1 - 2 * ((0 : Nat) : Int)) * (1 - 2 * (x6 : Int)) + ((1 - 2 * ((1 : Nat) : Int)) * (1 - 2 * (x7 : Int)) + (0))))))))
    omega
  exact (lcons q0 (lcons q1 (lcons q2 (lcons q3 (lcons q4 (lcons q5 (lcons q6 (lcons q7 rfl))))))))
theorem td16 (x0 x1 x2 x3 x4 x5 x6 x7 x8 x9 x10 x11 x12 x13 x14 x15 : Nat) (hw : ∀ z ∈ [x0, x1, x2, x3, x4, x5, x6, x7, x8, x9, x10, x11, x12, x13, x14, x15], z < 2) : T16 (1 - 2 * (x0 : Int)) (1 - 2 * (x1 : Int)) (1 - 2 * (x2 : Int)) (1 - 2 * (x3 : Int)) (1 - 2 * (x4 : Int)) (1 - 2 * (x5 : Int)) (1 - 2 * (x6 : Int)) (1 - 2 * (x7 : Int)) (1 - 2 * (x8 : Int)) (1 - 2 * (x9 : Int)) (1 - 2 * (x10 : Int)) (1 - 2 * (x11 : Int)) (1 - 2 * (x12 : Int)) (1 - 2 * (x13 : Int)) (1 - 2 * (x14 : Int)) (1 - 2 * (x15 : Int)) = toldF 4 [x0, x1, x2, x3, x4, x5, x6, x7, x8, x9, x10, x11, x12, x13, x14, x15] := by
  have q0 : (((((1 - 2 * (x0 : Int)) + (1 - 2 * (x1 : Int))) + ((1 - 2 * (x2 : Int)) + (1 - 2 * (x3 : Int)))) + (((1 - 2 * (x4 : Int)) + (1 - 2 * (x5 : Int))) + ((1 - 2 * (x6 : Int)) + (1 - 2 * (x7 : Int))))) + ((((1 - 2 * (x8 : Int)) + (1 - 2 * (x9 : Int))) + ((1 - 2 * (x10 : Int)) + (1 - 2 * (x11 : Int)))) + (((1 - 2 * (x12 : Int)) + (1 - 2 * (x13 : Int))) + ((1 - 2 * (x14 : Int)) + (1 - 2 * (x15 : Int)))))) = ((2 ^ 4 : Nat) : Int) - 2 * (fdist (rowF 4 0 0) [x0, x1, x2, x3, x4, x5, x6, x7, x8, x9, x10, x11, x12, x13, x14, x15] : Nat) := by
    refine Eq.trans ?_ (chi_far (r := rowF 4 0 0) (w := [x0, x1, x2, x3, x4, x5, x6, x7, x8, x9, x10, x11, x12, x13, x14, x15]) (by decide) hw rfl).symm
    show _ = (1 - 2 * ((0 : Nat) : Int)) * (1 - 2 * (x0 : Int)) + ((1 - 2 * ((0 : Nat) : Int)) * (1 - 2 * (x1 : Int)) + ((1 - 2 * ((0 : Nat) : Int)) * (1 - 2 * (x2 : Int)) + ((1 - 2 * ((0 : Nat) : Int)) * (1 - 2 * (x3 : Int)) + ((1 - 2 * ((0 : Nat) : Int)) * (1 - 2 * (x4 : Int)) + ((1 - 2 * ((0 : Nat) : Int)) * (1 - 2 * (x5 : Int)) + ((1 - 2 * ((0 : Nat) : Int)) * (1 - 2 * (x6 : Int)) + ((1 - 2 * ((0 : Nat) : Int)) * (1 - 2 * (x7 : Int)) + ((1 - 2 * ((0 : Nat) : Int)) * (1 - 2 * (x8 : Int)) + ((1 - 2 * ((0 : Nat) : Int)) * (1 - 2 * (x9 : Int)) + ((1 - 2 * ((0 : Nat) : Int)) * (1 - 2 * (x10 : Int)) + ((1 - 2 * ((0 : Nat) : Int)) * (1 - 2 * (x11 : Int)) + ((1 - 2 * ((0 : Nat) : Int)) * (1 - 2 * (x12 : Int)) + ((1 - 2 * ((0 : Nat) : Int)) * (1 - 2 * (x13 : Int)) + ((1 - 2 * ((0 : Nat) : Int)) * (1 - 2 * (x14 : Int)) + ((1 - 2 * ((0 : Nat) : Int)) * (1 - 2 * (x15 : Int)) + (0))))))))))))))))
    omega
  have q1 : (((((1 - 2 * (x0 : Int)) - (1 - 2 * (x1 : Int))) + ((1 - 2 * (x2 : Int)) - (1 - 2 * (x3 : Int)))) + (((1 - 2 * (x4 : Int)) - (1 - 2 * (x5 : Int))) + ((1 - 2 * (x6 : Int)) - (1 - 2 * (x7 : Int))))) + ((((1 - 2 * (x8 : Int)) - (1 - 2 * (x9 : Int))) + ((1 - 2 * (x10 : Int)) - (1 - 2 * (x11 : Int)))) + (((1 - 2 * (x12 : Int)) - (1 - 2 * (x13 : Int))) + ((1 - 2 * (x14 : Int)) - (1 - 2 * (x15 : Int)))))) = ((2 ^ 4 : Nat) : Int) - 2 * (fdist (rowF 4 1 0) [x0, x1, x2, x3, x4, x5, x6, x7, x8, x9, x10, x11, x12, x13, x14, x15] : Nat) := by
    refine Eq.trans ?_ (chi_far (r := rowF 4 1 0) (w := [x0, x1, x2, x3, x4, x5, x6, x7, x8, x9, x10, x11, x12, x13, x14, x15]) (by decide) hw rfl).symm
    show _ = (1 - 2 * ((0 : Nat) : Int)) * (1 - 2 * (x0 : Int)) + ((1 - 2 * ((1 : Nat) : Int)) * (1 - 2 * (x1 : Int)) + ((1 - 2 * ((0 : Nat) : Int)) * (1 - 2 * (x2 : Int)) + ((1 - 2 * ((1 : Nat) : Int)) * (1 - 2 * (x3 : Int)) + ((1 - 2 * ((0 : Nat) : Int)) * (1 - 2 * (x4 : Int)) + ((1 - 2 * ((1 : Nat) : Int)) * (1 - 2 * (x5 : Int)) + ((1 - 2 * ((0 : Nat) : Int)) * (1 - 2 * (x6 : Int)) + ((1 - 2 * ((1 : Nat) : Int)) * (1 - 2 * (x7 : Int)) + ((1 - 2 * ((0 : Nat) : Int)) * (1 - 2 * (x8 : Int)) + ((1 - 2 * ((1 : Nat) : Int)) * (1 - 2 * (x9 : Int)) + ((1 - 2 * ((0 : Nat) : Int)) * (1 - 2 * (x10 : Int)) + ((1 - 2 * ((1 : Nat) : Int)) * (1 - 2 * (x11 : Int)) + ((1 - 2 * ((0 : Nat) : Int)) * (1 - 2 * (x12 : Int)) + ((1 - 2 * ((1 : Nat) : Int)) * (1 - 2 * (x13 : Int)) + ((1 - 2 * ((0 : Nat) : Int)) * (1 - 2 * (x14 : Int)) + ((1 - 2 * ((1 : Nat) : Int)) * (1 - 2 * (x15 : Int)) + (0))))))))))))))))
    omega
  have q2 : (((((1 - 2 * (x0 : Int)) + (1 - 2 * (x1 : Int))) - ((1 - 2 * (x2 : Int)) + (1 - 2 * (x3 : Int)))) + (((1 - 2 * (x4 : Int)) + (1 - 2 * (x5 : Int))) - ((1 - 2 * (x6 : Int)) + (1 - 2 * (x7 : Int))))) + ((((1 - 2 * (x8 : Int)) + (1 - 2 * (x9 : Int))) - ((1 - 2 * (x10 : Int)) + (1 - 2 * (x11 : Int)))) + (((1 - 2 * (x12 : Int)) + (1 - 2 * (x13 : Int))) - ((1 - 2 * (x14 : Int)) + (1 - 2 * (x15 : Int)))))) = ((2 ^ 4 : Nat) : Int) - 2 * (fdist (rowF 4 2 0) [x0, x1, x2, x3, x4, x5, x6, x7, x8, x9, x10, x11, x12, x13, x14, x15] : Nat) := by
    refine Eq.trans ?_ (chi_far (r := rowF 4 2 0) (w := [x0, x1, x2, x3, x4, x5, x6, x7, x8, x9, x10, x11, x12, x13, x14, x15]) (by decide) hw rfl).symm
    show _ = (1 - 2 * ((0 : Nat) : Int)) * (1 - 2 * (x0 : Int)) + ((1 - 2 * ((0 : Nat) : Int)) * (1 - 2 * (x1 : Int)) + ((1 - 2 * ((1 : Nat) : Int)) * (1 - 2 * (x2 : Int)) + ((1 - 2 * ((1 : Nat) : Int)) * (1 - 2 * (x3 : Int)) + ((1 - 2 * ((0 : Nat) : Int)) * (1 - 2 * (x4 : Int)) + ((1 - 2 * ((0 : Nat) : Int)) * (1 - 2 * (x5 : Int)) + ((1 - 2 * ((1 : Nat) : Int)) * (1 - 2 * (x6 : Int)) + ((1 - 2 * ((1 : Nat) : Int)) * (1 - 2 * (x7 : Int)) + ((1 - 2 * ((0 : Nat) : Int)) * (1 - 2 * (x8 : Int)) + ((1 - 2 * ((0 : Nat) : Int)) * (1 - 2 * (x9 : Int)) + ((1 - 2 * ((1 : Nat) : Int)) * (1 - 2 * (x10 : Int)) + ((1 - 2 * ((1 : Nat) : Int)) * (1 - 2 * (x11 : Int)) + ((1 - 2 * ((0 : Nat) : Int)) * (1 - 2 * (x12 : Int)) + ((1 - 2 * ((0 : Nat) : Int)) * (1 - 2 * (x13 : Int)) + ((1 - 2 * ((1 : Nat) : Int)) * (1 - 2 * (x14 : Int)) + ((1 - 2 * ((1 : Nat) : Int)) * (1 - 2 * (x15 : Int)) + (0))))))))))))))))
    omega
  have q3 : (((((1 - 2 * (x0 : Int)) - (1 - 2 * (x1 : Int))) - ((1 - 2 * (x2 : Int)) - (1 - 2 * (x3 : Int)))) + (((1 - 2 * (x4 : Int)) - (1 - 2 * (x5 : Int))) - ((1 - 2 * (x6 : Int)) - (1 - 2 * (x7 : Int))))) + ((((1 - 2 * (x8 : Int)) - (1 - 2 * (x9 : Int))) - ((1 - 2 * (x10 : Int)) - (1 - 2 * (x11 : Int)))) + (((1 - 2 * (x12 : Int)) - (1 - 2 * (x13 : Int))) - ((1 - 2 * (x14 : Int)) - (1 - 2 * (x15 : Int)))))) = ((2 ^ 4 : Nat) : Int) - 2 * (fdist (rowF 4 3 0) [x0, x1, x2, x3, x4, x5, x6, x7, x8, x9, x10, x11, x12, x13, x14, x15] : Nat) := by
    refine Eq.trans ?_ (chi_far (r := rowF 4 3 0) (w := [x0, x1, x2, x3, x4, x5, x6, x7, x8, x9, x10, x11, x12, x13, x14, x15]) (by decide) hw rfl).symm
    show _ = (1 - 2 * ((0 : Nat) : Int)) * (1 - 2 * (x0 : Int)) + ((1 - 2 * ((1 : Nat) : Int)) * (1 - 2 * (x1 : Int)) + ((1 - 2 * ((1 : Nat) : Int)) * (1 - 2 * (x2 : Int)) + ((1 - 2 * ((0 : Nat) : Int)) * (1 - 2 * (x3 : Int)) + ((1 - 2 * ((0 : Nat) : Int)) * (1 - 2 * (x4 : Int)) + ((1 - 2 * ((1 : Nat) : Int)) * (1 - 2 * (x5 : Int)) + ((1 - 2 * ((1 : Nat) : Int)) * (1 - 2 * (x6 : Int)) + ((1 - 2 * ((0 : Nat) : Int)) * (1 - 2 * (x7 : Int)) + ((1 - 2 * ((0 : Nat) : Int)) * (1 - 2 * (x8 : Int)) + ((1 - 2 * ((1 : Nat) : Int)) * (1 - 2 * (x9 : Int)) + ((1 - 2 * ((1 : Nat) : Int)) * (1 - 2 * (x10 : Int)) + ((1 - 2 * ((0 : Nat) : Int)) * (1 - 2 * (x11 : Int)) + ((1 - 2 * ((0 : Nat) : Int)) * (1 - 2 * (x12 : Int)) + ((1 - 2 * ((1 : Nat) : Int)) * (1 - 2 * (x13 : Int)) + ((1 - 2 * ((1 : Nat) : Int)) * (1 - 2 * (x14 : Int)) + ((1 - 2 * ((0 : Nat) : Int)) * (1 - 2 * (x15 : Int)) + (0))))))))))))))))
    omega
  have q4 : (((((1 - 2 * (x0 : Int)) + (1 - 2 * (x1 : Int))) + ((1 - 2 * (x2 : Int)) + (1 - 2 * (x3 : Int)))) - (((1 - 2 * (x4 : Int)) + (1 - 2 * (x5 : Int))) + ((1 - 2 * (x6 : Int)) + (1 - 2 * (x7 : Int))))) + ((((1 - 2 * (x8 : Int)) + (1 - 2 * (x9 : Int))) + ((1 - 2 * (x10 : Int)) + (1 - 2 * (x11 : Int)))) - (((1 - 2 * (x12 : Int)) + (1 - 2 * (x13 : Int))) + ((1 - 2 * (x14 : Int)) + (1 - 2 * (x15 : Int)))))) = ((2 ^ 4 : Nat) : Int) - 2 * (fdist (rowF 4 4 0) [x0, x1, x2, x3, x4, x5, x6, x7, x8, x9, x10, x11, x12, x13, x14, x15] : Nat) := by
    refine Eq.trans ?_ (chi_far (r := rowF 4 4 0) (w := [x0, x1, x2, x3, x4, x5, x6, x7, x8, x9, x10, x11, x12, x13, x14, x15]) (by decide) hw rfl).symm
    show _ = (1 - 2 * ((0 : Nat) : Int)) * (1 - 2 * (x0 : Int)) + ((1 - 2 * ((0 : Nat) : Int)) * (1 - 2 * (x1 : Int)) + ((1 - 2 * ((0 : Nat) : Int)) * (1 - 2 * (x2 : Int)) + ((1 - 2 * ((0 : Nat) : Int)) * (1 - 2 * (x3 : Int)) + ((1 - 2 * ((1 : Nat) : Int)) * (1 - 2 * (x4 : Int)) + ((1 - 2 * ((1 : Nat) : Int)) * (1 - 2 * (x5 : Int)) + ((1 - 2 * ((1 : Nat) : Int)) * (1 - 2 * (x6 : Int)) + ((1 - 2 * ((1 : Nat) : Int)) * (1 - 2 * (x7 : Int)) + ((1 - 2 * ((0 : Nat) : Int)) * (1 - 2 * (x8 : Int)) + ((1 - 2 * ((0 : Nat) : Int)) * (1 - 2 * (x9 : Int)) + ((1 - 2 * ((0 : Nat) : Int)) * (1 - 2 * (x10 : Int)) + ((1 - 2 * ((0 : Nat) : Int)) * (1 - 2 * (x11 : Int)) + ((1 - 2 * ((1 : Nat) : Int)) * (1 - 2 * (x12 : Int)) + ((1 - 2 * ((1 : Nat) : Int)) * (1 - 2 * (x13 : Int)) + ((1 - 2 * ((1 : Nat) : Int)) * (1 - 2 * (x14 : Int)) + ((1 - 2 * ((1 : Nat) : Int)) * (1 - 2 * (x15 : Int)) + (0))))))))))))))))
    omega
  have q5 : (((((1 - 2 * (x0 : Int)) - (1 - 2 * (x1 : Int))) + ((1 - 2 * (x2 : Int)) - (1 - 2 * (x3 : Int)))) - (((1 - 2 * (x4 : Int)) - (1 - 2 * (x5 : Int))) + ((1 - 2 * (x6 : Int)) - (1 - 2 * (x7 : Int))))) + ((((1 - 2 * (x8 : Int)) - (1 - 2 * (x9 : Int))) + ((1 - 2 * (x10 : Int)) - (1 - 2 * (x11 : Int)))) - (((1 - 2 * (x12 : Int)) - (1 - 2 * (x13 : Int))) + ((1 - 2 * (x14 : Int)) - (1 - 2 * (x15 : Int)))))) = ((2 ^ 4 : Nat) : Int) - 2 * (fdist (rowF 4 5 0) [x0, x1, x2, x3, x4, x5, x6, x7, x8, x9, x10, x11, x12, x13, x14, x15] : Nat) := by
    refine Eq.trans ?_ (chi_far (r := rowF 4 5 0) (w := [x0, x1, x2, x3, x4, x5, x6, x7, x8, x9, x10, x11, x12, x13, x14, x15]) (by decide) hw rfl).symm
    show _ = (1 - 2 * ((0 : Nat) : Int)) * (1 - 2 * (x0 : Int)) + ((1 - 2 * ((1 : Nat) : Int)) * (1 - 2 * (x1 : Int)) + ((1 - 2 * ((0 : Nat) : Int)) * (1 - 2 * (x2 : Int)) + ((1 - 2 * ((1 : Nat) : Int)) * (1 - 2 * (x3 : Int)) + ((1 - 2 * ((1 : Nat) : Int)) * (1 - 2 * (x4 : Int)) + ((1 - 2 * ((0 : Nat) : Int)) * (1 - 2 * (x5 : Int)) + ((1 - 2 * ((1 : Nat) : Int)) * (1 - 2 * (x6 : Int)) + ((1 - 2 * ((0 : Nat) : Int)) * (1 - 2 * (x7 : Int)) + ((1 - 2 * ((0 : Nat) : Int)) * (1 - 2 * (x8 : Int)) + ((1 - 2 * ((1 : Nat) : Int)) * (1 - 2 * (x9 : Int)) + ((1 - 2 * ((0 : Nat) : Int)) * (1 - 2 * (x10 : Int)) + ((1 - 2 * ((1 : Nat) : Int)) * (1 - 2 * (x11 : Int)) + ((1 - 2 * ((1 : Nat) : Int)) * (1 - 2 * (x12 : Int)) + ((1 - 2 * ((0 : Nat) : Int)) * (1 - 2 * (x13 : Int)) + ((1 - 2 * ((1 : Nat) : Int)) * (1 - 2 * (x14 : Int)) + ((1 - 2 * ((0 : Nat) : Int)) * (1 - 2 * (x15 : Int)) + (0))))))))))))))))
    omega
  have q6 : (((((1 - 2 * (x0 : Int)) + (1 - 2 * (x1 : Int))) - ((1 - 2 * (x2 : Int)) + (1 - 2 * (x3 : Int)))) - (((1 - 2 * (x4 : Int)) + (1 - 2 * (x5 : Int))) - ((1 - 2 * (x6 : Int)) + (1 - 2 * (x7 : Int))))) + ((((1 - 2 * (x8 : Int)) + (1 - 2 * (x9 : Int))) - ((1 - 2 * (x10 : Int)) + (1 - 2 * (x11 : Int)))) - (((1 - 2 * (x12 : Int)) + (1 - 2 * (x13 : Int))) - ((1 - 2 * (x14 : Int)) + (1 - 2 * (x15 : Int)))))) = ((2 ^ 4 : Nat) : Int) - 2 * (fdist (rowF 4 6 0) [x0, x1, x2, x3, x4, x5, x6, x7, x8, x9, x10, x11, x12, x13, x14, x15] : Nat) := by
    refine Eq.trans ?_ (chi_far (r := rowF 4 6 0) (w := [x0, x1, x2, x3, x4, x5, x6, x7, x8, x9, x10, x11, x12, x13, x14, x15]) (by decide) hw rfl).symm
    show _ = (1 - 2 * ((0 : Nat) : Int)) * (1 - 2 * (x0 : Int)) + ((1 - 2 * ((0 : Nat) : Int)) * (1 - 2 * (x1 : Int)) + ((1 - 2 * ((1 : Nat) : Int)) * (1 - 2 * (x2 : Int)) + ((1 - 2 * ((1 : Nat) : Int)) * (1 - 2 * (x3 : Int)) + ((1 - 2 * ((1 : Nat) : Int)) * (1 - 2 * (x4 : Int)) + ((1 - 2 * ((1 : Nat) : Int)) * (1 - 2 * (x5 : Int)) + ((1 - 2 * ((0 : Nat) : Int)) * (1 - 2 * (x6 : Int)) + ((1 - 2 * ((0 : Nat) : Int)) * (1 - 2 * (x7 : Int)) + ((1 - 2 * ((0 : Nat) : Int)) * (1 - 2 * (x8 : Int)) + ((1 - 2 * ((0 : Nat) : Int)) * (1 - 2 * (x9 : Int)) + ((1 - 2 * ((1 : Nat) : Int)) * (1 - 2 * (x10 : Int)) + ((1 - 2 * ((1 : Nat) : Int)) * (1 - 2 * (x11 : Int)) + ((1 - 2 * ((1 : Nat) : Int)) * (1 - 2 * (x12 : Int)) + ((1 - 2 * ((1 : Nat) : Int)) * (1 - 2 * (x13 : Int)) + ((1 - 2 * ((0 : Nat) : Int)) * (1 - 2 * (x14 : Int)) + ((1 - 2 * ((0 : Nat) : Int)) * (1 - 2 * (x15 : Int)) + (0))))))))))))))))
    omega
  have q7 : (((((1 - 2 * (x0 : Int)) - (1 - 2 * (x1 : Int))) - ((1 - 2 * (x2 : Int)) - (1 - 2 * (x3 : Int)))) - (((1 - 2 * (x4 : Int)) - (1 - 2 * (x5 : Int))) - ((1 - 2 * (x6 : Int)) - (1 - 2 * (x7 : Int))))) + ((((1 - 2 * (x8 : Int)) - (1 - 2 * (x9 : Int))) - ((1 - 2 * (x10 : Int)) - (1 - 2 * (x11 : Int)))) - (((1 - 2 * (x12 : Int)) - (1 - 2 * (x13 : Int))) - ((1 - 2 * (x14 : Int)) - (1 - 2 * (x15 : Int)))))) = ((2 ^ 4 : Nat) : Int) - 2 * (fdist (rowF 4 7 0) [x0, x1, x2, x3, x4, x5, x6, x7, x8, x9, x10, x11, x12, x13, x14, x15] : Nat) := by
    refine Eq.trans ?_ (chi_far (r := rowF 4 7 0) (w := [x0, x1, x2, x3, x4, x5, x6, x7, x8, x9, x10, x11, x12, x13, x14, x15]) (by decide) hw rfl).symm
    show _ = (1 - 2 * ((0 : Nat) : Int)) * (1 - 2 * (x0 : Int)) + ((1 - 2 * ((1 : Nat) : Int)) * (1 - 2 * (x1 : Int)) + ((1 - 2 * ((1 : Nat) : Int)) * (1 - 2 * (x2 : Int)) + ((1 - 2 * ((0 : Nat) : Int)) * (1 - 2 * (x3 : Int)) + ((1 - 2 * ((1 : Nat) : Int)) * (1 - 2 * (x4 : Int)) + ((1 - 2 * ((0 : Nat) : Int)) * (1 - 2 * (x5 : Int)) + ((1 - 2 * ((0 : Nat) : Int)) * (1 - 2 * (x6 : Int)) + ((1 - 2 * ((1 : Nat) : Int)) * (1 - 2 * (x7 : Int)) + ((1 - 2 * ((0 : Nat) : Int)) * (1 - 2 * (x8 : Int)) + ((1 - 2 * ((1 : Nat) : Int)) * (1 - 2 * (x9 : Int)) + ((1 - 2 * ((1 : Nat) : Int)) * (1 - 2 * (x10 : Int)) + ((1 - 2 * ((0 : Nat) : Int)) * (1 - 2 * (x11 : Int)) + ((1 - 2 * ((1 : Nat) : Int)) * (1 - 2 * (x12 : Int)) + ((1 - 2 * ((0 : Nat) : Int)) * (1 - 2 * (x13 : Int)) + ((1 - 2 * ((0 : Nat) : Int)) * (1 - 2 * (x14 : Int)) + ((1 - 2 * ((1 : Nat) : Int)) * (1 - 2 * (x15 : Int)) + (0))))))))))))))))
    omega
  have q8 : (((((1 - 2 * (x0 : Int)) + (1 - 2 * (x1 : Int))) + ((1 - 2 * (x2 : Int)) + (1 - 2 * (x3 : Int)))) + (((1 - 2 * (x4 : Int)) + (1 - 2 * (x5 : Int))) + ((1 - 2 * (x6 : Int)) + (1 - 2 * (x7 : Int))))) - ((((1 - 2 * (x8 : Int)) + (1 - 2 * (x9 : Int))) + ((1 - 2 * (x10 : Int)) + (1 - 2 * (x11 : Int)))) + (((1 - 2 * (x12 : Int)) + (1 - 2 * (x13 : Int))) + ((1 - 2 * (x14 : Int)) + (1 - 2 * (x15 : Int)))))) = ((2 ^ 4 : Nat) : Int) - 2 * (fdist (rowF 4 8 0) [x0, x1, x2, x3, x4, x5, x6, x7, x8, x9, x10, x11, x12, x13, x14, x15] : Nat) := by
    refine Eq.trans ?_ (chi_far (r := rowF 4 8 0) (w := [x0, x1, x2, x3, x4, x5, x6, x7, x8, x9, x10, x11, x12, x13, x14, x15]) (by decide) hw rfl).symm
    show _ = (1 - 2 * ((0 : Nat) : Int)) * (1 - 2 * (x0 : Int)) + ((1 - 2 * ((0 : Nat) : Int)) * (1 - 2 * (x1 : Int)) + ((1 - 2 * ((0 : Nat) : Int)) * (1 - 2 * (x2 : Int)) + ((1 - 2 * ((0 : Nat) : Int)) * (1 - 2 * (x3 : Int)) + ((1 - 2 * ((0 : Nat) : Int)) * (1 - 2 * (x4 : Int)) + ((1 - 2 * ((0 : Nat) : Int)) * (1 - 2 * (x5 : Int)) + ((1 - 2 * ((0 : Nat) : Int)) * (1 - 2 * (x6 : Int)) + ((1 - 2 * ((0 : Nat) : Int)) * (1 - 2 * (x7 : Int)) + ((1 - 2 * ((1 : Nat) : Int)) * (1 - 2 * (x8 : Int)) + ((1 - 2 * ((1 : Nat) : Int)) * (1 - 2 * (x9 : Int)) + ((1 - 2 * ((1 : Nat) : Int)) * (1 - 2 * (x10 : Int)) + ((1 - 2 * ((1 : Nat) : Int)) * (1 - 2 * (x11 : Int)) + ((1 - 2 * ((1 : Nat) : Int)) * (1 - 2 * (x12 : Int)) + ((1 - 2 * ((1 : Nat) : Int)) * (1 - 2 * (x13 : Int)) + ((1 - 2 * ((1 : Nat) : Int)) * (1 - 2 * (x14 : Int)) + ((1 - 2 * ((1 : Nat) : Int)) * (1 - 2 * (x15 : Int)) + (0))))))))))))))))
    omega
  have q9 : (((((1 - 2 * (x0 : Int)) - (1 - 2 * (x1 : Int))) + ((1 - 2 * (x2 : Int)) - (1 - 2 * (x3 : Int)))) + (((1 - 2 * (x4 : Int)) - (1 - 2 * (x5 : Int))) + ((1 - 2 * (x6 : Int)) - (1 - 2 * (x7 : Int))))) - ((((1 - 2 * (x8 : Int)) - (1 - 2 * (x9 : Int))) + ((1 - 2 * (x10 : Int)) - (1 - 2 * (x11 : Int)))) + (((1 - 2 * (x12 : Int)) - (1 - 2 * (x13 : Int))) + ((1 - 2 * (x14 : Int)) - (1 - 2 * (x15 : Int)))))) = ((2 ^ 4 : Nat) : Int) - 2 * (fdist (rowF 4 9 0) [x0, x1, x2, x3, x4, x5, x6, x7, x8, x9, x10, x11, x12, x13, x14, x15] : Nat) := by
    refine Eq.trans ?_ (chi_far (r := rowF 4 9 0) (w := [x0, x1, x2, x3, x4, x5, x6, x7, x8, x9, x10, x11, x12, x13, x14, x15]) (by decide) hw rfl).symm
    show _ = (1 - 2 * ((0 : Nat) : Int)) * (1 - 2 * (x0 : Int)) + ((1 - 2 * ((1 : Nat) : Int)) * (1 - 2 * (x1 : Int)) + ((1 - 2 * ((0 : Nat) : Int)) * (1 - 2 * (x2 : Int)) + ((1 - 2 * ((1 : Nat) : Int)) * (1 - 2 * (x3 : Int)) + ((1 - 2 * ((0 : Nat) : Int)) * (1 - 2 * (x4 : Int)) + ((1 - 2 * ((1 : Nat) : Int)) * (1 - 2 * (x5 : Int)) + ((1 - 2 * ((0 : Nat) : Int)) * (1 - 2 * (x6 : Int)) + ((1 - 2 * ((1 : Nat) : Int)) * (1 - 2 * (x7 : Int)) + ((1 - 2 * ((1 : Nat) : Int)) * (1 - 2 * (x8 : Int)) + ((1 - 2 * ((0 : Nat) : Int)) * (1 - 2 * (x9 : Int)) + ((1 - 2 * ((1 : Nat) : Int)) * (1 - 2 * (x10 : Int)) + ((1 - 2 * ((0 : Nat) : Int)) * (1 - 2 * (x11 : Int)) + ((1 - 2 * ((1 : Nat) : Int)) * (1 - 2 * (x12 : Int)) + ((1 - 2 * ((0 : Nat) : Int)) * (1 - 2 * (x13 : Int)) + ((1 - 2 * ((1 : Nat) : Int)) * (1 - 2 * (x14 : Int)) + ((1 - 2 * ((0 : Nat) : Int)) * (1 - 2 * (x15 : Int)) + (0))))))))))))))))
    omega
  have q10 : (((((1 - 2 * (x0 : Int)) + (1 - 2 * (x1 : Int))) - ((1 - 2 * (x2 : Int)) + (1 - 2 * (x3 : Int)))) + (((1 - 2 * (x4 : Int)) + (1 - 2 * (x5 : Int))) - ((1 - 2 * (x6 : Int)) + (1 - 2 * (x7 : Int))))) - ((((1 - 2 * (x8 : Int)) + (1 - 2 * (x9 : Int))) - ((1 - 2 * (x10 : Int)) + (1 - 2 * (x11 : Int)))) + (((1 - 2 * (x12 : Int)) + (1 - 2 * (x13 : Int))) - ((1 - 2 * (x14 : Int)) + (1 - 2 * (x15 : Int)))))) = ((2 ^ 4 : Nat) : Int) - 2 * (fdist (rowF 4 10 0) [x0, x1, x2, x3, x4, x5, x6, x7, x8, x9, x10, x11, x12, x13, x14, x15] : Nat) := by
    refine Eq.trans ?_ (chi_far (r := rowF 4 10 0) (w := [x0, x1, x2, x3, x4, x5, x6, x7, x8, x9, x10, x11, x12, x13, x14, x15]) (by decide) hw rfl).symm
    show _ = (1 - 2 * ((0 : Nat) : Int)) * (1 - 2 * (x0 : Int)) + ((1 - 2 * ((0 : Nat) : Int)) * (1 - 2 * (x1 : Int)) + ((1 - 2 * ((1 : Nat) : Int)) * (1 - 2 * (x2 : Int)) + ((1 - 2 * ((1 : Nat) : Int)) * (1 - 2 * (x3 : Int)) + ((1 - 2 * ((0 : Nat) : Int)) * (1 - 2 * (x4 : Int)) + ((1 - 2 * ((0 : Nat) : Int)) * (1 - 2 * (x5 : Int)) + ((1 - 2 * ((1 : Nat) : Int)) * (1 - 2 * (x6 : Int)) + ((1 - 2 * ((1 : Nat) : Int)) * (1 - 2 * (x7 : Int)) + ((1 - 2 * ((1 : Nat) : Int)) * (1 - 2 * (x8 : Int)) + ((1 - 2 * ((1 : Nat) : Int)) * (1 - 2 * (x9 : Int)) + ((1 - 2 * ((0 : Nat) : Int)) * (1 - 2 * (x10 : Int)) + ((1 - 2 * ((0 : Nat) : Int)) * (1 - 2 * (x11 : Int)) + ((1 - 2 * ((1 : Nat) : Int)) * (1 - 2 * (x12 : Int)) + ((1 - 2 * ((1 : Nat) : Int)) * (1 - 2 * (x13 : Int)) + ((1 - 2 * ((0 : Nat) : Int)) * (1 - 2 * (x14 : Int)) + ((1 - 2 * ((0 : Nat) : Int)) * (1 - 2 * (x15 : Int)) + (0))))))))))))))))
    omega
  have q11 : (((((1 - 2 * (x0 : Int)) - (1 - 2 * (x1 : Int))) - ((1 - 2 * (x2 : Int)) - (1 - 2 * (x3 : Int)))) + (((1 - 2 * (x4 : Int)) - (1 - 2 * (x5 : Int))) - ((1 - 2 * (x6 : Int)) - (1 - 2 * (x7 : Int))))) - ((((1 - 2 * (x8 : Int)) - (1 - 2 * (x9 : Int))) - ((1 - 2 * (x10 : Int)) - (1 - 2 * (x11 : Int)))) + (((1 - 2 * (x12 : Int)) - (1 - 2 * (x13 : Int))) - ((1 - 2 * (x14 : Int)) - (1 - 2 * (x15 : Int)))))) = ((2 ^ 4 : Nat) : Int) - 2 * (fdist (rowF 4 11 0) [x0, x1, x2, x3, x4, x5, x6, x7, x8, x9, x10, x11, x12, x13, x14, x15] : Nat) := by
    refine Eq.trans ?_ (chi_far (r := rowF 4 11 0) (w := [x0, x1, x2, x3, x4, x5, x6, x7, x8, x9, x10, x11, x12, x13, x14, x15]) (by decide) hw rfl).symm
    show _ = (1 - 2 * ((0 : Nat) : Int)) * (1 - 2 * (x0 : Int)) + ((1 - 2 * ((1 : Nat) : Int)) * (1 - 2 * (x1 : Int)) + ((1 - 2 * ((1 : Nat) : Int)) * (1 - 2 * (x2 : Int)) + ((1 - 2 * ((0 : Nat) : Int)) * (1 - 2 * (x3 : Int)) + ((1 - 2 * ((0 : Nat) : Int)) * (1 - 2 * (x4 : Int)) + ((1 - 2 * ((1 : Nat) : Int)) * (1 - 2 * (x5 : Int)) + ((1 - 2 * ((1 : Nat) : Int)) * (1 - 2 * (x6 : Int)) + ((1 - 2 * ((0 : Nat) : Int)) * (1 - 2 * (x7 : Int)) + ((1 - 2 * ((1 : Nat) : Int)) * (1 - 2 * (x8 : Int)) + ((1 - 2 * ((0 : Nat) : Int)) * (1 - 2 * (x9 : Int)) + ((1 - 2 * ((0 : Nat) : Int)) * (1 - 2 * (x10 : Int)) + ((1 - 2 * ((1 : Nat) : Int)) * (1 - 2 * (x11 : Int)) + ((1 - 2 * ((1 : Nat) : Int)) * (1 - 2 * (x12 : Int)) + ((1 - 2 * ((0 : Nat) : Int)) * (1 - 2 * (x13 : Int)) + ((1 - 2 * ((0 : Nat) : Int)) * (1 - 2 * (x14 : Int)) + ((1 - 2 * ((1 : Nat) : Int)) * (1 - 2 * (x15 : Int)) + (0))))))))))))))))
    omega
  have q12 : (((((1 - 2 * (x0 : Int)) + (1 - 2 * (x1 : Int))) + ((1 - 2 * (x2 : Int)) + (1 - 2 * (x3 : Int)))) - (((1 - 2 * (x4 : Int)) + (1 - 2 * (x5 : Int))) + ((1 - 2 * (x6 : Int)) + (1 - 2 * (x7 : Int))))) - ((((1 - 2 * (x8 : Int)) + (1 - 2 * (x9 : Int))) + ((1 - 2 * (x10 : Int)) + (1 - 2 * (x11 : Int)))) - (((1 - 2 * (x12 : Int)) + (1 - 2 * (x13 : Int))) + ((1 - 2 * (x14 : Int)) + (1 - 2 * (x15 : Int)))))) = ((2 ^ 4 : Nat) : Int) - 2 * (fdist (rowF 4 12 0) [x0, x1, x2, x3, x4, x5, x6, x7, x8, x9, x10, x11, x12, x13, x14, x15] : Nat) := by
    refine Eq.trans ?_ (chi_far (r := rowF 4 12 0) (w := [x0, x1, x2, x3, x4, x5, x6, x7, x8, x9, x10, x11, x12, x13, x14, x15]) (by decide) hw rfl).symm
    show _ = (1 - 2 * ((0 : Nat) : Int)) * (1 - 2 * (x0 : Int)) + ((1 - 2 * ((0 : Nat) : Int)) * (1 - 2 * (x1 : Int)) + ((1 - 2 * ((0 : Nat) : Int)) * (1 - 2 * (x2 : Int)) + ((1 - 2 * ((0 : Nat) : Int)) * (1 - 2 * (x3 : Int)) + ((1 - 2 * ((1 : Nat) : Int)) * (1 - 2 * (x4 : Int)) + ((1 - 2 * ((1 : Nat) : Int)) * (1 - 2 * (x5 : Int)) + ((1 - 2 * ((1 : Nat) : Int)) * (1 - 2 * (x6 : Int)) + ((1 - 2 * ((1 : Nat) : Int)) * (1 - 2 * (x7 : Int)) + ((1 - 2 * ((1 : Nat) : Int)) * (1 - 2 * (x8 : Int)) + ((1 - 2 * ((1 : Nat) : Int)) * (1 - 2 * (x9 : Int)) + ((1 - 2 * ((1 : Nat) : Int)) * (1 - 2 * (x10 : Int)) + ((1 - 2 * ((1 : Nat) : Int)) * (1 - 2 * (x11 : Int)) + ((1 - 2 * ((0 : Nat) : Int)) * (1 - 2 * (x12 : Int)) + ((1 - 2 * ((0 : Nat) : Int)) * (1 - 2 * (x13 : Int)) + ((1 - 2 * ((0 : Nat) : Int)) * (1 - 2 * (x14 : Int)) + ((1 - 2 * ((0 : Nat) : Int)) * (1 - 2 * (x15 : Int)) + (0))))))))))))))))
    omega
  have q13 : (((((1 - 2 * (x0 : Int)) - (1 - 2 * (x1 : Int))) + ((1 - 2 * (x2 : Int)) - (1 - 2 * (x3 : Int)))) - (((1 - 2 * (x4 : Int)) - (1 - 2 * (x5 : Int))) + ((1 - 2 * (x6 : Int)) - (1 - 2 * (x7 : Int))))) - ((((1 - 2 * (x8 : Int)) - (1 - 2 * (x9 : Int))) + ((1 - 2 * (x10 : Int)) - (1 - 2 * (x11 : Int)))) - (((1 - 2 * (x12 : Int)) - (1 - 2 * (x13 : Int))) + ((1 - 2 * (x14 : Int)) - (1 - 2 * (x15 : Int)))))) = ((2 ^ 4 : Nat) : Int) - 2 * (fdist (rowF 4 13 0) [x0, x1, x2, x3, x4, x5, x6, x7, x8, x9, x10, x11, x12, x13, x14, x15] : Nat) := by
    refine Eq.trans ?_ (chi_far (r := rowF 4 13 0) (w := [x0, x1, x2, x3, x4, x5, x6, x7, x8, x9, x10, x11, x12, x13, x14, x15]) (by decide) hw rfl).symm
    show _ = (1 - 2 * ((0 : Nat) : Int)) * (1 - 2 * (x0 : Int)) + ((1 - 2 * ((1 : Nat) : Int)) * (1 - 2 * (x1 : Int)) + ((1 - 2 * ((0 : Nat) : Int)) * (1 - 2 * (x2 : Int)) + ((1 - 2 * ((1 : Nat) : Int)) * (1 - 2 * (x3 : Int)) + ((1 - 2 * ((1 : Nat) : Int)) * (1 - 2 * (x4 : Int)) + ((1 - 2 * ((0 : Nat) : Int)) * (1 - 2 * (x5 : Int)) + ((1 - 2 * ((1 : Nat) : Int)) * (1 - 2 * (x6 : Int)) + ((1 - 2 * ((0 : Nat) : Int)) * (1 - 2 * (x7 : Int)) + ((1 - 2 * ((1 : Nat) : Int)) * (1 - 2 * (x8 : Int)) + ((1 - 2 * ((0 : Nat) : Int)) * (1 - 2 * (x9 : Int)) + ((1 - 2 * ((1 : Nat) : Int)) * (1 - 2 * (x10 : Int)) + ((1 - 2 * ((0 : Nat) : Int)) * (1 - 2 * (x11 : Int)) + ((1 - 2 * ((0 : Nat) : Int)) * (1 - 2 * (x12 : Int)) + ((1 - 2 * ((1 : Nat) : Int)) * (1 - 2 * (x13 : Int)) + ((1 - 2 * ((0 : Nat) : Int)) * (1 - 2 * (x14 : Int)) + ((1 - 2 * ((1 : Nat) : Int)) * (1 - 2 * (x15 : Int)) + (0))))))))))))))))
    omega
  have q14 : (((((1 - 2 * (x0 : Int)) + (1 - 2 * (x1 : Int))) - ((1 - 2 * (x2 : Int)) + (1 - 2 * (x3 : Int)))) - (((1 - 2 * (x4 : Int)) + (1 - 2 * (x5 : Int))) - ((1 - 2 * (x6 : Int)) + (1 - 2 * (x7 : Int))))) - ((((1 - 2 * (x8 : Int)) + (1 - 2 * (x9 : Int))) - ((1 - 2 * (x10 : Int)) + (1 - 2 * (x11 : Int)))) - (((1 - 2 * (x12 : Int)) + (1 - 2 * (x13 : Int))) - ((1 - 2 * (x14 : Int)) + (1 - 2 * (x15 : Int)))))) = ((2 ^ 4 : Nat) : Int) - 2 * (fdist (rowF 4 14 0) [x0, x1, x2, x3, x4, x5, x6, x7, x8, x9, x10, x11, x12, x13, x14, x15] : Nat) := by
    refine Eq.trans ?_ (chi_far (r := rowF 4 14 0) (w := [x0, x1, x2, x3, x4, x5, x6, x7, x8, x9, x10, x11, x12, x13, x14, x15]) (by decide) hw rfl).symm
    show _ = (1 - 2 * ((0 : Nat) : Int)) * (1 - 2 * (x0 : Int)) + ((1 - 2 * ((0 : Nat) : Int)) * (1 - 2 * (x1 : Int)) + ((1 - 2 * ((1 : Nat) : Int)) * (1 - 2 * (x2 : Int)) + ((1 - 2 * ((1 : Nat) : Int)) * (1 - 2 * (x3 : Int)) + ((1 - 2 * ((1 : Nat) : Int)) * (1 - 2 * (x4 : Int)) + ((1 - 2 * ((1 : Nat) : Int)) * (1 - 2 * (x5 : Int)) + ((1 - 2 * ((0 : Nat) : Int)) * (1 - 2 * (x6 : Int)) + ((1 - 2 * ((0 : Nat) : Int)) * (1 - 2 * (x7 : Int)) + ((1 - 2 * ((1 : Nat) : Int)) * (1 - 2 * (x8 : Int)) + ((1 - 2 * ((1 : Nat) : Int)) * (1 - 2 * (x9 : Int)) + ((1 - 2 * ((0 : Nat) : Int)) * (1 - 2 * (x10 : Int)) + ((1 - 2 * ((0 : Nat) : Int)) * (1 - 2 * (x11 : Int)) + ((1 - 2 * ((0 : Nat) : Int)) * (1 - 2 * (x12 : Int)) + ((1 - 2 * ((0 : Nat) : Int)) * (1 - 2 * (x13 : Int)) + ((1 - 2 * ((1 : Nat) : Int)) * (1 - 2 * (x14 : Int)) + ((1 - 2 * ((1 : Nat) : Int)) * (1 - 2 * (x15 : Int)) + (0))))))))))))))))
    omega
  have q15 : (((((1 - 2 * (x0 : Int)) - (1 - 2 * (x1 : Int))) - ((1 - 2 * (x2 : Int)) - (1 - 2 * (x3 : Int)))) - (((1 - 2 * (x4 : Int)) - (1 - 2 * (x5 : Int))) - ((1 - 2 * (x6 : Int)) - (1 - 2 * (x7 : Int))))) - ((((1 - 2 * (x8 : Int)) - (1 - 2 * (x9 : Int))) - ((1 - 2 * (x10 : Int)) - (1 - 2 * (x11 : Int)))) - (((1 - 2 * (x12 : Int)) - (1 - 2 * (x13 : Int))) - ((1 - 2 * (x14 : Int)) - (1 - 2 * (x15 : Int)))))) = ((2 ^ 4 : Nat) : Int) - 2 * (fdist (rowF 4 15 0) [x0, x1, x2, x3, x4, x5, x6, x7, x8, x9, x10, x11, x12, x13, x14, x15] : Nat) := by
    refine Eq.trans ?_ (chi_far (r := rowF 4 15 0) (w := [x0, x1, x2, x3, x4, x5, x6, x7, x8, x9, x10, x11, x12, x13, x14, x15]) (by decide) hw rfl).symm
    show _ = (1 - 2 * ((0 : Nat) : Int)) * (1 - 2 * (x0 : Int)) + ((1 - 2 * ((1 : Nat) : Int)) * (1 - 2 * (x1 : Int)) + ((1 - 2 * ((1 : Nat) : Int)) * (1 - 2 * (x2 : Int)) + ((1 - 2 * ((0 : Nat) : Int)) * (1 - 2 * (x3 : Int)) + ((1 - 2 * ((1 : Nat) : Int)) * (1 - 2 * (x4 : Int)) + ((1 - 2 * ((0 : Nat) : Int)) * (1 - 2 * (x5 : Int)) + ((1 - 2 * ((0 : Nat) : Int)) * (1 - 2 * (x6 : Int)) + ((1 - 2 * ((1 : Nat) : Int)) * (1 - 2 * (x7 : Int)) + ((1 - 2 * ((1 : Nat) : Int)) * (1 - 2 * (x8 : Int)) + ((1 - 2 * ((0 : Nat) : Int)) * (1 - 2 * (x9 : Int)) + ((1 - 2 * ((0 : Nat) : Int)) * (1 - 2 * (x10 : Int)) + ((1 - 2 * ((1 : Nat) : Int)) * (1 - 2 * (x11 : Int)) + ((1 - 2 * ((0 : Nat) : Int)) * (1 - 2 * (x12 : Int)) + ((1 - 2 * ((1 : Nat) : Int)) * (1 - 2 * (x13 : Int)) + ((1 - 2 * ((1 : Nat) : Int)) * (1 - 2 * (x14 : Int)) + ((1 - 2 * ((0 : Nat) : Int)) * (1 - 2 * (x15 : Int)) + (0))))))))))))))))
    omega
  exact (lcons q0 (lcons q1 (lcons q2 (lcons q3 (lcons q4 (lcons q5 (lcons q6 (lcons q7 (lcons q8 (lcons q9 (lcons q10 (lcons q11 (lcons q12 (lcons q13 (lcons q14 (lcons q15 rfl))))))))))))))))
end FW

/-! Q16b: is_bent, nearest_sums. -/
namespace FW
open PySem PySem.Spec L2
open PyProof.Rows hiding St
theorem trans_ok {many : Nat} (h1 : 1 ≤ many) (h4 : many ≤ 4) {w : List Nat} (hl : w.length = 2 ^ many) (hw : ∀ z ∈ w, z < 2) :
    f_transform [tN w] = .ok (.list ((toldF many w).map PyData.int)) ∧ ((toldF many w).map fun n => n * n).sum = ((2 ^ many * 2 ^ many : Nat) : Int) := by
  have sq : ∀ x : Nat, x < 2 → (1 - 2 * (x : Int)) * (1 - 2 * (x : Int)) = 1 := fun x hx => match x, hx with
    | 0, _ => rfl
    | 1, _ => rfl
    | _ + 2, h => absurd h (by omega)
  match many, h1, h4, w, hl with
  | 1, _, _, [x0, x1], _ =>
    rw [← td2 x0 x1 hw]
    exact ⟨tr2 x0 x1, ps2 _ _ (sq _ (hw _ (by simp))) (sq _ (hw _ (by simp)))⟩
  | 2, _, _, [x0, x1, x2, x3], _ =>
    rw [← td4 x0 x1 x2 x3 hw]
    refine ⟨tr4 x0 x1 x2 x3, ps4 _ _ _ _ ?_ ?_ ?_ ?_⟩ <;> exact sq _ (hw _ (by simp))
  | 3, _, _, [x0, x1, x2, x3, x4, x5, x6, x7], _ =>
    rw [← td8 x0 x1 x2 x3 x4 x5 x6 x7 hw]
    refine ⟨tr8 x0 x1 x2 x3 x4 x5 x6 x7, ps8 _ _ _ _ _ _ _ _ ?_ ?_ ?_ ?_ ?_ ?_ ?_ ?_⟩ <;> exact sq _ (hw _ (by simp))
  | 4, _, _, [x0, x1, x2, x3, x4, x5, x6, x7, x8, x9, x10, x11, x12, x13, x14, x15], _ =>
    rw [← td16 x0 x1 x2 x3 x4 x5 x6 x7 x8 x9 x10 x11 x12 x13 x14 x15 hw]
    refine ⟨tr16 x0 x1 x2 x3 x4 x5 x6 x7 x8 x9 x10 x11 x12 x13 x14 x15, ps16 _ _ _ _ _ _ _ _ _ _ _ _ _ _ _ _ ?_ ?_ ?_ ?_ ?_ ?_ ?_ ?_ ?_ ?_ ?_ ?_ ?_ ?_ ?_ ?_⟩ <;> exact sq _ (hw _ (by simp))
def abI (i : Int) : Int := if i < 0 then -i else i
theorem absD_i {i : Int} : absD [.int i] = some (.int (abI i)) := rfl
theorem tN_len {w : List Nat} : lenD [tN w] = some (.int (w.length : Nat)) := by
  unfold tN
  rw [lenD_t, List.length_map]
theorem lenD_li {T : List Int} : lenD [.list (T.map PyData.int)] = some (.int (T.length : Nat)) := by rw [lenD_l, List.length_map]
/-! each once -/
theorem dd_grow : ∀ (ns acc : List Int), acc.length ≤ (ns.foldl step_dedup acc).length
  | [], _ => Nat.le_refl _
  | n :: ns, acc => by
    refine Nat.le_trans ?_ (dd_grow ns (step_dedup acc n))
    unfold step_dedup
    split <;> simp
theorem dd_one : ∀ (ns : List Int) (n : Int), ((ns.foldl step_dedup [n]).length = 1) ↔ ∀ m ∈ ns, m = n
  | [], n => by simp
  | m :: ns, n => by
    rw [List.foldl_cons]
    by_cases h : m = n
    · subst h
      have e : step_dedup [m] m = [m] := by simp [step_dedup]
      rw [e, dd_one ns m]
      simp
    · have e : step_dedup [n] m = [n, m] := by
        have : (n == m) = false := by simpa using fun z => h z.symm
        simp [step_dedup, this]
      rw [e]
      have := dd_grow ns [n, m]
      simp only [List.length_cons, List.length_nil] at this
      constructor
      · intro z
        omega
      · intro z
        exact absurd (z m List.mem_cons_self) h
theorem ddI_one {n : Int} {ns : List Int} : (ddI (n :: ns)).length = 1 ↔ ∀ m ∈ ns, m = n := by
  have e : ddI (n :: ns) = ns.foldl step_dedup [n] := rfl
  rw [e]
  exact dd_one ns n
theorem lenSet_i {T : List Int} (h : T.length ≤ 4000) : lenSetD (.list (T.map PyData.int)) = some (.int ((ddI T).length : Nat)) := by
  show (allI (T.map PyData.int)).bind _ = _
  rw [allI_map]
  simp [h]
theorem is_bent_eq {w : List Nat} {T : List Int} (hT : f_transform [tN w] = .ok (.list (T.map PyData.int))) (hl : T.length ≤ 4000) : f_is_bent [tN w] = .ok (.bool (decide (1 < w.length) && decide ((ddI (T.map abI)).length = 1))) := by
  refine RsK.eq (R_run2 ?_)
  show Wp b_is_bent [.dat (tN w), .un] _
  unfold b_is_bent
  simp only [↓kPre, kPost, tN_len, hT]
  have e1 : decide ((1 : Int) < (w.length : Nat)) = decide (1 < w.length) := by
    rw [decide_eq_decide]
    omega
  rw [e1]
  cases h : decide (1 < w.length) with
  | false => simp only [↓kPre, kPost, Bool.false_and]
  | true =>
    simp only [↓kPre, kPost, Bool.true_and]
    refine E_mapG PyData.int T (fun n => .int (abI n)) ?_ (by simp) (by first | rfl | (simp [plainAt, plain_gv]; done) | (simp [plainAt, plain_gv, plainSlot]; done)) (by omega) (fun n hn => ?_) ?_
    · simp only [↓kPre, kPost, hT, walk_l, and_self]
    · simp only [↓kPre, kPost, absD_i, and_self]
    have e2 : T.map (fun n => PyData.int (abI n)) = (T.map abI).map PyData.int := by
      rw [List.map_map]
      rfl
    have e3 : decide ((((ddI (T.map abI)).length : Nat) : Int) = 1) = decide ((ddI (T.map abI)).length = 1) := by
      rw [decide_eq_decide]
      omega
    simp only [↓kPre, kPost, e2, lenSet_i (show (T.map abI).length ≤ 4000 by rw [List.length_map]; exact hl), e3, Bool.true_and]
/-! the nearest sums -/
def prN (m : Nat) (a : Int) : D := .tuple [nI m, .int a]
def nearAt (T : List Int) (best : Int) (m : Nat) : List D := if abI (T.getD m 0) = best then (if T.getD m 0 = best then [prN m 0] else []) ++ (if T.getD m 0 = 0 - best then [prN m 1] else []) else []
theorem near_le {T : List Int} {best : Int} {m : Nat} : (nearAt T best m).length ≤ 2 := by
  unfold nearAt
  split
  · rw [List.length_append]
    split <;> split <;> simp
  · simp
theorem near_sum {T : List Int} {best : Int} : ∀ n : Nat, ((List.range n).flatMap (nearAt T best)).length ≤ 2 * n
  | 0 => by simp
  | n + 1 => by
    rw [List.range_succ, List.flatMap_append, List.length_append]
    have := near_sum (T := T) (best := best) n
    have h2 : ([n].flatMap (nearAt T best)).length ≤ 2 := by
      rw [List.flatMap_cons, List.flatMap_nil, List.append_nil]
      exact near_le
    omega
theorem ix_li {T : List Int} {k : Nat} (h : k < T.length) : ixD (.list (T.map PyData.int)) (.int (k : Nat)) = some (.int (T.getD k 0)) := by
  refine ixL_g PyData.int ?_
  rw [List.getD_eq_getElem?_getD, List.getElem?_eq_getElem h]
  rfl
theorem extD_l {ds es : List D} (h : ds.length + es.length ≤ 1000000) : extD ds [.list es] = some (.none, ds ++ es) := by
  have hz : (1000000 : Nat) ≤ sizeLine := by decide
  show (if ds.length + es.length ≤ sizeLine then some (PyData.none, ds ++ es) else none) = _
  rw [if_pos (by omega)]
theorem near_eq {many : Int} {w : List Nat} {T : List Int} {best : Int} (hT : f_transform [tN w] = .ok (.list (T.map PyData.int))) (hm : maxI (T.map abI) = some best) (hl : T.length ≤ 1000) :
    f_nearest_sums [.int many, tN w] = .ok (.list ((List.range T.length).flatMap (nearAt T best))) := by
  refine RsK.eq (R_run2 ?_)
  show Wp b_nearest_sums [.dat (.int many), .dat (tN w), .un, .un, .un, .un, .un] _
  unfold b_nearest_sums
  simp only [↓kPre, kPost, hT]
  refine E_mapG PyData.int T (fun n => .int (abI n)) ?_ (by simp) (by first | rfl | (simp [plainAt, plain_gv]; done) | (simp [plainAt, plain_gv, plainSlot]; done)) (by omega) (fun n hn => ?_) ?_
  · simp only [↓kPre, kPost, walk_l, and_self]
  · simp only [↓kPre, kPost, absD_i, and_self]
  have e2 : T.map (fun n => PyData.int (abI n)) = (T.map abI).map PyData.int := by
    rw [List.map_map]
    rfl
  have e3 : maxX [.list ((T.map abI).map PyData.int)] = some (.int best) := by
    have : maxD [.list ((T.map abI).map PyData.int)] = some (.int best) := by
      show ((allI ((T.map abI).map PyData.int)).bind maxI).map PyData.int = _
      rw [allI_map]
      simp [hm]
    unfold maxX
    rw [this]
  simp only [↓kPre, kPost, e2, e3, lenD_li, rng1_ok (n := T.length) (by omega), list_range]
  refine W_forX nI (List.range T.length) (st := fun i (c : Option D) => [.dat (.int many), .dat (tN w), .dat (.list (T.map PyData.int)), .dat (.int best), .own ((List.range i).flatMap (nearAt T best)), gv c, .un]) none (fun i x hx c => ?_) (fun c => ?_)
  · obtain ⟨hi, rfl⟩ : i < T.length ∧ i = x := by
      obtain ⟨h1, h2⟩ := List.getElem?_eq_some_iff.mp hx
      rw [List.length_range] at h1
      rw [List.getElem_range] at h2
      exact ⟨h1, h2⟩
    refine ⟨_, rfl, ?_⟩
    have hn := near_sum (T := T) (best := best) i
    rw [List.range_succ, List.flatMap_append, List.flatMap_cons, List.flatMap_nil, List.append_nil]
    generalize (List.range i).flatMap (nearAt T best) = N at hn ⊢
    simp only [↓kPre, kPost, nI_eq, ix_li hi, absD_i]
    unfold nearAt
    by_cases h1 : abI (T.getD i 0) = best
    · rw [if_pos h1]
      simp only [↓kPre, kPost, h1, decide_true, ix_li hi]
      by_cases h2 : T.getD i 0 = best
      · rw [decide_eq_true h2, if_pos h2]
        simp only [↓kPre, kPost]
        refine OpK.of (extD_l (by simp; omega)) ?_
        simp only [↓kPre, kPost, nI_eq, ix_li hi]
        by_cases h3 : T.getD i 0 = 0 - best
        · rw [decide_eq_true h3, if_pos h3]
          simp only [↓kPre, kPost]
          refine OpK.of (extD_l (by simp; omega)) ?_
          simp only [↓kPre, kPost]
          exact ⟨some _, .inl (by rw [List.append_assoc]; rfl)⟩
        · rw [decide_eq_false h3, if_neg h3]
          simp only [↓kPre, kPost]
          refine OpK.of (extD_l (by simp; omega)) ?_
          simp only [↓kPre, kPost]
          exact ⟨some _, .inl (by rw [List.append_assoc]; rfl)⟩
      · rw [decide_eq_false h2, if_neg h2]
        simp only [↓kPre, kPost]
        refine OpK.of (extD_l (by simp; omega)) ?_
        simp only [↓kPre, kPost, nI_eq, ix_li hi]
        by_cases h3 : T.getD i 0 = 0 - best
        · rw [decide_eq_true h3, if_pos h3]
          simp only [↓kPre, kPost]
          refine OpK.of (extD_l (by simp; omega)) ?_
          simp only [↓kPre, kPost]
          exact ⟨some _, .inl (by rw [List.append_assoc]; rfl)⟩
        · rw [decide_eq_false h3, if_neg h3]
          simp only [↓kPre, kPost]
          refine OpK.of (extD_l (by simp; omega)) ?_
          simp only [↓kPre, kPost]
          exact ⟨some _, .inl (by rw [List.append_assoc]; rfl)⟩
    · rw [if_neg h1, decide_eq_false h1]
      simp only [↓kPre, kPost]
      exact ⟨some _, .inl (by rw [List.append_nil]; rfl)⟩
  · simp only [↓kPre, kPost, List.length_range]
end FW

/-! Q16c: the first half of the law. -/
namespace FW
open PySem PySem.Spec L2
open PyProof.Rows hiding St
theorem tN_ix {w : List Nat} {k : Nat} (h : k < w.length) : ixD (tN w) (.int (k : Nat)) = some (.int (w.getD k 0 : Nat)) := by
  refine ixT_g nI ?_
  rw [List.getD_eq_getElem?_getD, List.getElem?_eq_getElem h]
  rfl
theorem law_far_eq {r w : List Nat} (hl : r.length ≤ w.length) (hs : r.length ≤ 1000000) : f__law_far [tN r, tN w] = .ok (.int (fdist r w : Nat)) := by
  refine RsK.eq (R_run2 ?_)
  show Wp b__law_far [.dat (tN r), .dat (tN w), .un] _
  unfold b__law_far
  simp only [↓kPre, kPost]
  refine E_selG nI (List.range r.length) (fun k => r.getD k 0 != w.getD k 0) nI ?_ (by simp) (by first | rfl | (simp [plainAt, plain_gv]; done) | (simp [plainAt, plain_gv, plainSlot]; done)) (by simp; omega) (fun k hk => ?_) (fun k hk _ => ?_) ?_
  · simp only [↓kPre, kPost, tN_len, rng1_ok (n := r.length) (by omega), list_range, and_self]
  · have hk := List.mem_range.mp hk
    have e : (!decide ((r.getD k 0 : Int) = (w.getD k 0 : Nat))) = (r.getD k 0 != w.getD k 0) := by
      rw [Bool.eq_iff_iff]
      simp
      omega
    simp only [↓kPre, kPost, nI_eq, tN_ix hk, tN_ix (show k < w.length by omega), e, and_self]
  · simp only [↓kPre, kPost, and_self]
  simp only [↓kPre, kPost, fdist]
theorem fdist_comp : ∀ {r w : List Nat}, (∀ x ∈ r, x < 2) → (∀ x ∈ w, x < 2) → r.length = w.length → fdist (r.map (1 - ·)) w + fdist r w = w.length
  | [], [], _, _, _ => rfl
  | x :: r, y :: w, hr, hw, hl => by
    have ih := fdist_comp (r := r) (w := w) (fun z hz => hr z (List.mem_cons_of_mem _ hz)) (fun z hz => hw z (List.mem_cons_of_mem _ hz)) (by simpa using hl)
    rw [List.map_cons, fdist_cons, fdist_cons, List.length_cons]
    have h1 := hr x List.mem_cons_self
    have h2 := hw y List.mem_cons_self
    match x, y, h1, h2 with
    | 0, 0, _, _ => simp; omega
    | 0, 1, _, _ => simp; omega
    | 1, 0, _, _ => simp; omega
    | 1, 1, _, _ => simp; omega
    | _ + 2, _, h1, _ => omega
    | 0, _ + 2, _, h2 => omega
    | 1, _ + 2, _, h2 => omega
theorem rowF_ok : ∀ many, 1 ≤ many → many ≤ 4 → ∀ m < 2 ^ many, (rowF many m 0).length = 2 ^ many ∧ (∀ x ∈ rowF many m 0, x < 2) ∧ rowF many m 1 = (rowF many m 0).map (1 - ·) := by
  intro many h1 h4
  match many, h1, h4 with
  | 1, _, _ => decide +kernel
  | 2, _, _ => decide +kernel
  | 3, _, _ => decide +kernel
  | 4, _, _ => decide +kernel
theorem law_sum_eq {many m c : Nat} (h1 : 1 ≤ many) (h4 : many ≤ 4) (hm : m < 2 ^ many) (hc : c < 2) : f__law_sum [.int (m : Nat), .int (c : Nat), .int (many : Nat)] = .ok (tN (rowF many m c)) := by
  match many, h1, h4 with
  | 1, _, _ => exact ls1 m hm c hc
  | 2, _, _ => exact ls2 m hm c hc
  | 3, _, _ => exact ls3 m hm c hc
  | 4, _, _ => exact ls4 m hm c hc
theorem toldF_len {many : Nat} {w : List Nat} : (toldF many w).length = 2 ^ many := by simp [toldF]
theorem toldF_at {many : Nat} {w : List Nat} {m : Nat} (h : m < 2 ^ many) : (toldF many w).getD m 0 = ((2 ^ many : Nat) : Int) - 2 * (fdist (rowF many m 0) w : Nat) := by
  unfold toldF
  rw [List.getD_eq_getElem?_getD, List.getElem?_map, List.getElem?_range h]
  rfl
/-! the nearest -/
structure Pr where
  far : Nat
  mask : Nat
  add : Nat
def prD (p : Pr) : D := .tuple [.int p.far, .tuple [.int p.mask, .int p.add]]
def prF (F : Nat → Nat → Nat) (m c : Nat) : Pr := ⟨F m c, m, c⟩
def prsF (F : Nat → Nat → Nat) (L : Nat) : List Pr := (List.range L).flatMap fun m => [prF F m 0, prF F m 1]
theorem prs_near {F : Nat → Nat → Nat} {L : Nat} {T : List Int} {best : Int} {far : Nat} (hT : ∀ m < L, T.getD m 0 = (L : Int) - 2 * (F m 0 : Nat)) (hF : ∀ m < L, F m 1 + F m 0 = L) (hb : 0 ≤ best) (hfb : 2 * (far : Int) = L - best) :
    ((prsF F L).filter fun p => p.far == far).map (fun p => PyData.tuple [.int (p.mask : Nat), .int (p.add : Nat)]) = (List.range L).flatMap (nearAt T best) := by
  unfold prsF
  rw [List.filter_flatMap, List.map_flatMap]
  have key : ∀ l : List Nat, (∀ m ∈ l, m < L) → (l.flatMap fun m => (List.filter (fun p : Pr => p.far == far) [prF F m 0, prF F m 1]).map (fun p => PyData.tuple [.int (p.mask : Nat), .int (p.add : Nat)])) = l.flatMap (nearAt T best) := by
    intro l
    induction l with
    | nil => intro _; rfl
    | cons m l ih =>
      intro h
      rw [List.flatMap_cons, List.flatMap_cons, ih fun x hx => h x (List.mem_cons_of_mem _ hx)]
      congr 1
      have hm := h m List.mem_cons_self
      have t := hT m hm
      have f := hF m hm
      have c0 : (F m 0 == far) = decide (T.getD m 0 = best) := by
        rw [Bool.eq_iff_iff]
        simp
        simp only [List.getD_eq_getElem?_getD] at t
        omega
      have c1 : (F m 1 == far) = decide (T.getD m 0 = 0 - best) := by
        rw [Bool.eq_iff_iff]
        simp
        simp only [List.getD_eq_getElem?_getD] at t
        omega
      unfold nearAt
      have ha : abI (T.getD m 0) = best ↔ (T.getD m 0 = best ∨ T.getD m 0 = 0 - best) := by
        unfold abI
        split <;> omega
      by_cases h0 : T.getD m 0 = best
      · by_cases h1 : T.getD m 0 = 0 - best
        · rw [if_pos (ha.mpr (.inl h0)), if_pos h0, if_pos h1]
          rw [decide_eq_true h0] at c0
          rw [decide_eq_true h1] at c1
          simp [List.filter, prF, c0, c1, prN, nI]
        · rw [if_pos (ha.mpr (.inl h0)), if_pos h0, if_neg h1]
          rw [decide_eq_true h0] at c0
          rw [decide_eq_false h1] at c1
          simp [List.filter, prF, c0, c1, prN, nI]
      · by_cases h1 : T.getD m 0 = 0 - best
        · rw [if_pos (ha.mpr (.inr h1)), if_neg h0, if_pos h1]
          rw [decide_eq_false h0] at c0
          rw [decide_eq_true h1] at c1
          simp [List.filter, prF, c0, c1, prN, nI]
        · rw [if_neg (fun z => (ha.mp z).elim h0 h1)]
          rw [decide_eq_false h0] at c0
          rw [decide_eq_false h1] at c1
          simp [List.filter, prF, c0, c1]
  exact key _ fun m hm => List.mem_range.mp hm
theorem maxI_ex : ∀ {ns : List Int}, ns ≠ [] → ∃ b, maxI ns = some b ∧ b ∈ ns ∧ ∀ y ∈ ns, y ≤ b
  | n :: ns, _ => by
    obtain ⟨h1, h2, h3⟩ := fmax ns n
    refine ⟨_, rfl, ?_, fun y hy => ?_⟩
    · rcases h1 with h1 | h1
      · rw [h1]
        exact List.mem_cons_self
      · exact List.mem_cons_of_mem _ h1
    · rcases List.mem_cons.mp hy with rfl | hy
      · exact h2
      · exact h3 y hy
theorem minI_ex : ∀ {ns : List Int}, ns ≠ [] → ∃ b, minI ns = some b ∧ b ∈ ns ∧ ∀ y ∈ ns, b ≤ y
  | n :: ns, _ => by
    obtain ⟨h1, h2, h3⟩ := fmin ns n
    refine ⟨_, rfl, ?_, fun y hy => ?_⟩
    · rcases h1 with h1 | h1
      · rw [h1]
        exact List.mem_cons_self
      · exact List.mem_cons_of_mem _ h1
    · rcases List.mem_cons.mp hy with rfl | hy
      · exact h2
      · exact h3 y hy
theorem prs_mem {F : Nat → Nat → Nat} {L : Nat} {p : Pr} : p ∈ prsF F L ↔ ∃ m < L, p = prF F m 0 ∨ p = prF F m 1 := by
  unfold prsF
  simp [List.mem_flatMap]
theorem near_ok {F : Nat → Nat → Nat} {L : Nat} {T : List Int} (hL : 0 < L) (hl : T.length = L) (hT : ∀ m < L, T.getD m 0 = (L : Int) - 2 * (F m 0 : Nat)) (hF : ∀ m < L, F m 1 + F m 0 = L) :
    ∃ (best : Int) (far : Nat), maxI (T.map abI) = some best ∧ minI ((prsF F L).map fun p => (p.far : Int)) = some (far : Int) ∧ ((prsF F L).filter fun p => p.far == far).map (fun p => PyData.tuple [.int (p.mask : Nat), .int (p.add : Nat)]) = (List.range L).flatMap (nearAt T best) := by
  obtain ⟨best, b1, b2, b3⟩ := maxI_ex (ns := T.map abI) (fun e => by
    have := congrArg List.length e
    simp [hl] at this
    omega)
  obtain ⟨fr, f1, f2, f3⟩ := minI_ex (ns := (prsF F L).map fun p => (p.far : Int)) (fun e => by
    have : prF F 0 0 ∈ prsF F L := prs_mem.mpr ⟨0, hL, .inl rfl⟩
    rw [List.map_eq_nil_iff.mp e] at this
    cases this)
  obtain ⟨p, hp, ep⟩ := List.mem_map.mp f2
  have mT : ∀ m < L, T.getD m 0 ∈ T := fun m hm => by
    rw [List.getD_eq_getElem?_getD, List.getElem?_eq_getElem (by omega)]
    exact List.getElem_mem _
  have le1 : ∀ m < L, abI (T.getD m 0) ≤ best := fun m hm => b3 _ (List.mem_map.mpr ⟨_, mT m hm, rfl⟩)
  have le2 : ∀ m < L, fr ≤ (F m 0 : Nat) ∧ fr ≤ (F m 1 : Nat) := fun m hm => ⟨f3 _ (List.mem_map.mpr ⟨prF F m 0, prs_mem.mpr ⟨m, hm, .inl rfl⟩, rfl⟩), f3 _ (List.mem_map.mpr ⟨prF F m 1, prs_mem.mpr ⟨m, hm, .inr rfl⟩, rfl⟩)⟩
  obtain ⟨x, hx, ex⟩ := List.mem_map.mp b2
  obtain ⟨i, hi, ei⟩ := List.getElem_of_mem hx
  have xi : T.getD i 0 = x := by
    rw [List.getD_eq_getElem?_getD, List.getElem?_eq_getElem hi, ei]
    rfl
  rw [hl] at hi
  have bi := hT i hi
  have fi := hF i hi
  have l2 := le2 i hi
  rw [xi] at bi
  have hb : 0 ≤ best := by
    rw [← ex]
    unfold abI
    split <;> omega
  have ub : best ≤ L - 2 * fr := by
    rw [← ex]
    unfold abI
    split <;> omega
  obtain ⟨m, hm, e2⟩ := prs_mem.mp hp
  have lb : L - 2 * fr ≤ best := by
    have h1 := le1 m hm
    have h2 := hT m hm
    have h3 := hF m hm
    have ef : (p.far : Int) = fr := ep
    rcases e2 with rfl | rfl
    · have : (F m 0 : Int) = fr := ef
      unfold abI at h1
      split at h1 <;> omega
    · have : (F m 1 : Int) = fr := ef
      unfold abI at h1
      split at h1 <;> omega
  refine ⟨best, p.far, b1, by rw [f1, ← ep], ?_⟩
  exact prs_near hT hF hb (by omega)
end FW

/-! Q16d: the second half, by evaluation. -/
namespace FW
open PySem PySem.Spec L2
open PyProof.Rows hiding St
def isT : Out → Bool
  | .rt (.bool true) _ => true
  | _ => false
def b_tail : SM := sSeq (sAsg (eTup (aCons (eCall 1 (f__law_field) (aCons (eC (.int 2)) (aNil))) (aCons (eCall 2 (f__law_words) (aCons (eC (.int 2)) (aCons (eV 2) (aNil)))) (aNil)))) (gT (gsCons (gN 12) (gsCons (gN 13) (gsNil))) 2)) (sSeq (sSet 14 (eLst (aNil))) (sSeq (sFor (iA (eCall 2 (f__law_words) (aCons (eC (.int 2)) (aCons (eBin mulD (eV 2) (eV 11)) (aNil))))) (gN 15) (sSeq (sSet 16 (eB tupleD (aCons (eFz (eComp [21] (iR1 (aCons (eV 11) (aNil))) (gN 21) (bYes) (eSl (eV 15) (oSome (eBin mulD (eV 21) (eV 2))) (oSome (eBin mulD (eBin addD (eV 21) (eC (.int 1))) (eV 2)))))) (aNil)))) (sSeq (sSet 14 (eIf (bOf (eBin eqD (eCall 2 (f__law_plain) (aCons (eV 12) (aCons (eV 16) (aNil)))) (eV 16))) (eBin addD (eV 14) (eLst (aCons (eV 16) (aNil)))) (eV 14))) (sNx)))) (sSeq (sIf (bOf (eBin neD (eFz (eBF sortedX (aCons (eCall 2 (f_plains) (aCons (eV 2) (aCons (eV 11) (aNil)))) (aNil)))) (eFz (eBF sortedX (aCons (eV 14) (aNil)))))) (sSeq (sRet (eC (.bool false))) (sNx)) (sNx)) (sSeq (sSet 17 (eLst (aNil))) (sSeq (sFor (iA (eV 14)) (gN 16) (sSeq (sDat 18 (eComp [23] (iA (eCall 2 (f__law_words) (aCons (eC (.int 2)) (aCons (eV 11) (aNil))))) (gN 23) (bYes) (eCall 4 (f__law_mix) (aCons (eV 12) (aCons (eV 16) (aCons (eV 23) (aCons (eV 2) (aNil)))))))) (sSeq (sFor (iA (eV 13)) (gN 19) (sSeq (sSet 20 (eB tupleD (aCons (eFz (eBF sortedX (aCons (eFz (eComp [26] (iA (eV 18)) (gN 26) (bYes) (eIdxG (eV 13) (eB tupleD (aCons (eFz (eComp [21] (iR1 (aCons (eV 2) (aNil))) (gN 21) (bYes) (eBin modD (eB intD (aCons (eBin addD (eIx (eV 19) (eV 21)) (eIx (eV 26) (eV 21))) (aNil))) (eC (.int 2))))) (aNil)))))) (aNil)))) (aNil)))) (sSeq (sSet 17 (eIf (bOf (eBin ninD (eV 20) (eV 17))) (eBin addD (eV 17) (eLst (aCons (eV 20) (aNil)))) (eV 17))) (sNx)))) (sNx)))) (sSeq (sRet (eBin eqD (eCall 2 (f_flats) (aCons (eV 2) (aCons (eV 11) (aNil)))) (eFz (eBF sortedX (aCons (eV 17) (aNil)))))) (sNx)))))))
def lpB : SM := sSeq (sSet 16 (eB tupleD (aCons (eFz (eComp [21] (iR1 (aCons (eV 11) (aNil))) (gN 21) (bYes) (eSl (eV 15) (oSome (eBin mulD (eV 21) (eV 2))) (oSome (eBin mulD (eBin addD (eV 21) (eC (.int 1))) (eV 2)))))) (aNil)))) (sSeq (sSet 14 (eIf (bOf (eBin eqD (eCall 2 (f__law_plain) (aCons (eV 12) (aCons (eV 16) (aNil)))) (eV 16))) (eBin addD (eV 14) (eLst (aCons (eV 16) (aNil)))) (eV 14))) (sNx))
def b_t1 : SM := sSeq (sIf (bOf (eBin neD (eFz (eBF sortedX (aCons (eCall 2 (f_plains) (aCons (eV 2) (aCons (eV 11) (aNil)))) (aNil)))) (eFz (eBF sortedX (aCons (eV 14) (aNil)))))) (sSeq (sRet (eC (.bool false))) (sNx)) (sNx)) (sSeq (sSet 17 (eLst (aNil))) (sSeq (sFor (iA (eV 14)) (gN 16) (sSeq (sDat 18 (eComp [23] (iA (eCall 2 (f__law_words) (aCons (eC (.int 2)) (aCons (eV 11) (aNil))))) (gN 23) (bYes) (eCall 4 (f__law_mix) (aCons (eV 12) (aCons (eV 16) (aCons (eV 23) (aCons (eV 2) (aNil)))))))) (sSeq (sFor (iA (eV 13)) (gN 19) (sSeq (sSet 20 (eB tupleD (aCons (eFz (eBF sortedX (aCons (eFz (eComp [26] (iA (eV 18)) (gN 26) (bYes) (eIdxG (eV 13) (eB tupleD (aCons (eFz (eComp [21] (iR1 (aCons (eV 2) (aNil))) (gN 21) (bYes) (eBin modD (eB intD (aCons (eBin addD (eIx (eV 19) (eV 21)) (eIx (eV 26) (eV 21))) (aNil))) (eC (.int 2))))) (aNil)))))) (aNil)))) (aNil)))) (sSeq (sSet 17 (eIf (bOf (eBin ninD (eV 20) (eV 17))) (eBin addD (eV 17) (eLst (aCons (eV 20) (aNil)))) (eV 17))) (sNx)))) (sNx)))) (sSeq (sRet (eBin eqD (eCall 2 (f_flats) (aCons (eV 2) (aCons (eV 11) (aNil)))) (eFz (eBF sortedX (aCons (eV 17) (aNil)))))) (sNx))))
theorem tt_10 {a : Addr} {k : Int} {ns : List Int} {g3 g4 g5 g6 g7 g8 g9 g10 : Slot} : isT (b_tail [.un, .drw a k ns, .dat (.int 1), g3, g4, g5, g6, g7, g8, g9, g10, .dat (.int 0), .un, .un, .un, .un, .un, .un, .un, .un, .un, .un, .un, .un, .un, .un, .un]) = true := by kernel_rfl
theorem tt_11 {a : Addr} {k : Int} {ns : List Int} {g3 g4 g5 g6 g7 g8 g9 g10 : Slot} : isT (b_tail [.un, .drw a k ns, .dat (.int 1), g3, g4, g5, g6, g7, g8, g9, g10, .dat (.int 1), .un, .un, .un, .un, .un, .un, .un, .un, .un, .un, .un, .un, .un, .un, .un]) = true := by kernel_rfl
theorem tt_20 {a : Addr} {k : Int} {ns : List Int} {g3 g4 g5 g6 g7 g8 g9 g10 : Slot} : isT (b_tail [.un, .drw a k ns, .dat (.int 2), g3, g4, g5, g6, g7, g8, g9, g10, .dat (.int 0), .un, .un, .un, .un, .un, .un, .un, .un, .un, .un, .un, .un, .un, .un, .un]) = true := by kernel_rfl
theorem tt_21 {a : Addr} {k : Int} {ns : List Int} {g3 g4 g5 g6 g7 g8 g9 g10 : Slot} : isT (b_tail [.un, .drw a k ns, .dat (.int 2), g3, g4, g5, g6, g7, g8, g9, g10, .dat (.int 1), .un, .un, .un, .un, .un, .un, .un, .un, .un, .un, .un, .un, .un, .un, .un]) = true := by kernel_rfl
theorem tt_22 {a : Addr} {k : Int} {ns : List Int} {g3 g4 g5 g6 g7 g8 g9 g10 : Slot} : isT (b_tail [.un, .drw a k ns, .dat (.int 2), g3, g4, g5, g6, g7, g8, g9, g10, .dat (.int 2), .un, .un, .un, .un, .un, .un, .un, .un, .un, .un, .un, .un, .un, .un, .un]) = true := by kernel_rfl
theorem tt_30 {a : Addr} {k : Int} {ns : List Int} {g3 g4 g5 g6 g7 g8 g9 g10 : Slot} : isT (b_tail [.un, .drw a k ns, .dat (.int 3), g3, g4, g5, g6, g7, g8, g9, g10, .dat (.int 0), .un, .un, .un, .un, .un, .un, .un, .un, .un, .un, .un, .un, .un, .un, .un]) = true := by kernel_rfl
theorem tt_31 {a : Addr} {k : Int} {ns : List Int} {g3 g4 g5 g6 g7 g8 g9 g10 : Slot} : isT (b_tail [.un, .drw a k ns, .dat (.int 3), g3, g4, g5, g6, g7, g8, g9, g10, .dat (.int 1), .un, .un, .un, .un, .un, .un, .un, .un, .un, .un, .un, .un, .un, .un, .un]) = true := by kernel_rfl
theorem tt_32 {a : Addr} {k : Int} {ns : List Int} {g3 g4 g5 g6 g7 g8 g9 g10 : Slot} : isT (b_tail [.un, .drw a k ns, .dat (.int 3), g3, g4, g5, g6, g7, g8, g9, g10, .dat (.int 2), .un, .un, .un, .un, .un, .un, .un, .un, .un, .un, .un, .un, .un, .un, .un]) = true := by kernel_rfl
def wL : Nat → List D
  | 0 => [.tuple []]
  | n + 1 => (wL n).flatMap fun d => match d with | .tuple xs => [.tuple (xs ++ [.int 0]), .tuple (xs ++ [.int 1])] | _ => []
theorem words9 : f__law_words [.int 2, .int 9] = .ok (.list (wL 9)) := by kernel_rfl
theorem ck_0 {a : Addr} {k : Int} {ns : List Int} {g3 g4 g5 g6 g7 g8 g9 g10 : Slot} : forL (gN 15) lpB (((wL 9).drop 0).take 32) [.un, .drw a k ns, .dat (.int 3), g3, g4, g5, g6, g7, g8, g9, g10, .dat (.int 3), .dat (.tuple [.list [.list [.int 0, .int 1], .list [.int 1, .int 0]], .list [.list [.int 0, .int 0], .list [.int 0, .int 1]]]), .dat (.list [.tuple [.int 0, .int 0, .int 0], .tuple [.int 0, .int 0, .int 1], .tuple [.int 0, .int 1, .int 0], .tuple [.int 0, .int 1, .int 1], .tuple [.int 1, .int 0, .int 0], .tuple [.int 1, .int 0, .int 1], .tuple [.int 1, .int 1, .int 0], .tuple [.int 1, .int 1, .int 1]]), .dat (.list []), .un, .un, .un, .un, .un, .un, .un, .un, .un, .un, .un, .un] = .nx [.un, .drw a k ns, .dat (.int 3), g3, g4, g5, g6, g7, g8, g9, g10, .dat (.int 3), .dat (.tuple [.list [.list [.int 0, .int 1], .list [.int 1, .int 0]], .list [.list [.int 0, .int 0], .list [.int 0, .int 1]]]), .dat (.list [.tuple [.int 0, .int 0, .int 0], .tuple [.int 0, .int 0, .int 1], .tuple [.int 0, .int 1, .int 0], .tuple [.int 0, .int 1, .int 1], .tuple [.int 1, .int 0, .int 0], .tuple [.int 1, .int 0, .int 1], .tuple [.int 1, .int 1, .int 0], .tuple [.int 1, .int 1, .int 1]]), .dat (.list []), .dat (.tuple [.int 0, .int 0, .int 0, .int 0, .int 1, .int 1, .int 1, .int 1, .int 1]), .dat (.tuple [.tuple [.int 0, .int 0, .int 0], .tuple [.int 0, .int 1, .int 1], .tuple [.int 1, .int 1, .int 1]]), .un, .un, .un, .un, .un, .un, .un, .un, .un, .un] := by kernel_rfl
theorem ck_1 {a : Addr} {k : Int} {ns : List Int} {g3 g4 g5 g6 g7 g8 g9 g10 : Slot} : forL (gN 15) lpB (((wL 9).drop 32).take 32) [.un, .drw a k ns, .dat (.int 3), g3, g4, g5, g6, g7, g8, g9, g10, .dat (.int 3), .dat (.tuple [.list [.list [.int 0, .int 1], .list [.int 1, .int 0]], .list [.list [.int 0, .int 0], .list [.int 0, .int 1]]]), .dat (.list [.tuple [.int 0, .int 0, .int 0], .tuple [.int 0, .int 0, .int 1], .tuple [.int 0, .int 1, .int 0], .tuple [.int 0, .int 1, .int 1], .tuple [.int 1, .int 0, .int 0], .tuple [.int 1, .int 0, .int 1], .tuple [.int 1, .int 1, .int 0], .tuple [.int 1, .int 1, .int 1]]), .dat (.list []), .dat (.tuple [.int 0, .int 0, .int 0, .int 0, .int 1, .int 1, .int 1, .int 1, .int 1]), .dat (.tuple [.tuple [.int 0, .int 0, .int 0], .tuple [.int 0, .int 1, .int 1], .tuple [.int 1, .int 1, .int 1]]), .un, .un, .un, .un, .un, .un, .un, .un, .un, .un] = .nx [.un, .drw a k ns, .dat (.int 3), g3, g4, g5, g6, g7, g8, g9, g10, .dat (.int 3), .dat (.tuple [.list [.list [.int 0, .int 1], .list [.int 1, .int 0]], .list [.list [.int 0, .int 0], .list [.int 0, .int 1]]]), .dat (.list [.tuple [.int 0, .int 0, .int 0], .tuple [.int 0, .int 0, .int 1], .tuple [.int 0, .int 1, .int 0], .tuple [.int 0, .int 1, .int 1], .tuple [.int 1, .int 0, .int 0], .tuple [.int 1, .int 0, .int 1], .tuple [.int 1, .int 1, .int 0], .tuple [.int 1, .int 1, .int 1]]), .dat (.list []), .dat (.tuple [.int 0, .int 0, .int 0, .int 1, .int 1, .int 1, .int 1, .int 1, .int 1]), .dat (.tuple [.tuple [.int 0, .int 0, .int 0], .tuple [.int 1, .int 1, .int 1], .tuple [.int 1, .int 1, .int 1]]), .un, .un, .un, .un, .un, .un, .un, .un, .un, .un] := by kernel_rfl
theorem ck_2 {a : Addr} {k : Int} {ns : List Int} {g3 g4 g5 g6 g7 g8 g9 g10 : Slot} : forL (gN 15) lpB (((wL 9).drop 64).take 32) [.un, .drw a k ns, .dat (.int 3), g3, g4, g5, g6, g7, g8, g9, g10, .dat (.int 3), .dat (.tuple [.list [.list [.int 0, .int 1], .list [.int 1, .int 0]], .list [.list [.int 0, .int 0], .list [.int 0, .int 1]]]), .dat (.list [.tuple [.int 0, .int 0, .int 0], .tuple [.int 0, .int 0, .int 1], .tuple [.int 0, .int 1, .int 0], .tuple [.int 0, .int 1, .int 1], .tuple [.int 1, .int 0, .int 0], .tuple [.int 1, .int 0, .int 1], .tuple [.int 1, .int 1, .int 0], .tuple [.int 1, .int 1, .int 1]]), .dat (.list []), .dat (.tuple [.int 0, .int 0, .int 0, .int 1, .int 1, .int 1, .int 1, .int 1, .int 1]), .dat (.tuple [.tuple [.int 0, .int 0, .int 0], .tuple [.int 1, .int 1, .int 1], .tuple [.int 1, .int 1, .int 1]]), .un, .un, .un, .un, .un, .un, .un, .un, .un, .un] = .nx [.un, .drw a k ns, .dat (.int 3), g3, g4, g5, g6, g7, g8, g9, g10, .dat (.int 3), .dat (.tuple [.list [.list [.int 0, .int 1], .list [.int 1, .int 0]], .list [.list [.int 0, .int 0], .list [.int 0, .int 1]]]), .dat (.list [.tuple [.int 0, .int 0, .int 0], .tuple [.int 0, .int 0, .int 1], .tuple [.int 0, .int 1, .int 0], .tuple [.int 0, .int 1, .int 1], .tuple [.int 1, .int 0, .int 0], .tuple [.int 1, .int 0, .int 1], .tuple [.int 1, .int 1, .int 0], .tuple [.int 1, .int 1, .int 1]]), .dat (.list []), .dat (.tuple [.int 0, .int 0, .int 1, .int 0, .int 1, .int 1, .int 1, .int 1, .int 1]), .dat (.tuple [.tuple [.int 0, .int 0, .int 1], .tuple [.int 0, .int 1, .int 1], .tuple [.int 1, .int 1, .int 1]]), .un, .un, .un, .un, .un, .un, .un, .un, .un, .un] := by kernel_rfl
theorem ck_3 {a : Addr} {k : Int} {ns : List Int} {g3 g4 g5 g6 g7 g8 g9 g10 : Slot} : forL (gN 15) lpB (((wL 9).drop 96).take 32) [.un, .drw a k ns, .dat (.int 3), g3, g4, g5, g6, g7, g8, g9, g10, .dat (.int 3), .dat (.tuple [.list [.list [.int 0, .int 1], .list [.int 1, .int 0]], .list [.list [.int 0, .int 0], .list [.int 0, .int 1]]]), .dat (.list [.tuple [.int 0, .int 0, .int 0], .tuple [.int 0, .int 0, .int 1], .tuple [.int 0, .int 1, .int 0], .tuple [.int 0, .int 1, .int 1], .tuple [.int 1, .int 0, .int 0], .tuple [.int 1, .int 0, .int 1], .tuple [.int 1, .int 1, .int 0], .tuple [.int 1, .int 1, .int 1]]), .dat (.list []), .dat (.tuple [.int 0, .int 0, .int 1, .int 0, .int 1, .int 1, .int 1, .int 1, .int 1]), .dat (.tuple [.tuple [.int 0, .int 0, .int 1], .tuple [.int 0, .int 1, .int 1], .tuple [.int 1, .int 1, .int 1]]), .un, .un, .un, .un, .un, .un, .un, .un, .un, .un] = .nx [.un, .drw a k ns, .dat (.int 3), g3, g4, g5, g6, g7, g8, g9, g10, .dat (.int 3), .dat (.tuple [.list [.list [.int 0, .int 1], .list [.int 1, .int 0]], .list [.list [.int 0, .int 0], .list [.int 0, .int 1]]]), .dat (.list [.tuple [.int 0, .int 0, .int 0], .tuple [.int 0, .int 0, .int 1], .tuple [.int 0, .int 1, .int 0], .tuple [.int 0, .int 1, .int 1], .tuple [.int 1, .int 0, .int 0], .tuple [.int 1, .int 0, .int 1], .tuple [.int 1, .int 1, .int 0], .tuple [.int 1, .int 1, .int 1]]), .dat (.list []), .dat (.tuple [.int 0, .int 0, .int 1, .int 1, .int 1, .int 1, .int 1, .int 1, .int 1]), .dat (.tuple [.tuple [.int 0, .int 0, .int 1], .tuple [.int 1, .int 1, .int 1], .tuple [.int 1, .int 1, .int 1]]), .un, .un, .un, .un, .un, .un, .un, .un, .un, .un] := by kernel_rfl
theorem ck_4 {a : Addr} {k : Int} {ns : List Int} {g3 g4 g5 g6 g7 g8 g9 g10 : Slot} : forL (gN 15) lpB (((wL 9).drop 128).take 32) [.un, .drw a k ns, .dat (.int 3), g3, g4, g5, g6, g7, g8, g9, g10, .dat (.int 3), .dat (.tuple [.list [.list [.int 0, .int 1], .list [.int 1, .int 0]], .list [.list [.int 0, .int 0], .list [.int 0, .int 1]]]), .dat (.list [.tuple [.int 0, .int 0, .int 0], .tuple [.int 0, .int 0, .int 1], .tuple [.int 0, .int 1, .int 0], .tuple [.int 0, .int 1, .int 1], .tuple [.int 1, .int 0, .int 0], .tuple [.int 1, .int 0, .int 1], .tuple [.int 1, .int 1, .int 0], .tuple [.int 1, .int 1, .int 1]]), .dat (.list []), .dat (.tuple [.int 0, .int 0, .int 1, .int 1, .int 1, .int 1, .int 1, .int 1, .int 1]), .dat (.tuple [.tuple [.int 0, .int 0, .int 1], .tuple [.int 1, .int 1, .int 1], .tuple [.int 1, .int 1, .int 1]]), .un, .un, .un, .un, .un, .un, .un, .un, .un, .un] = .nx [.un, .drw a k ns, .dat (.int 3), g3, g4, g5, g6, g7, g8, g9, g10, .dat (.int 3), .dat (.tuple [.list [.list [.int 0, .int 1], .list [.int 1, .int 0]], .list [.list [.int 0, .int 0], .list [.int 0, .int 1]]]), .dat (.list [.tuple [.int 0, .int 0, .int 0], .tuple [.int 0, .int 0, .int 1], .tuple [.int 0, .int 1, .int 0], .tuple [.int 0, .int 1, .int 1], .tuple [.int 1, .int 0, .int 0], .tuple [.int 1, .int 0, .int 1], .tuple [.int 1, .int 1, .int 0], .tuple [.int 1, .int 1, .int 1]]), .dat (.list []), .dat (.tuple [.int 0, .int 1, .int 0, .int 0, .int 1, .int 1, .int 1, .int 1, .int 1]), .dat (.tuple [.tuple [.int 0, .int 1, .int 0], .tuple [.int 0, .int 1, .int 1], .tuple [.int 1, .int 1, .int 1]]), .un, .un, .un, .un, .un, .un, .un, .un, .un, .un] := by kernel_rfl
theorem ck_5 {a : Addr} {k : Int} {ns : List Int} {g3 g4 g5 g6 g7 g8 g9 g10 : Slot} : forL (gN 15) lpB (((wL 9).drop 160).take 32) [.un, .drw a k ns, .dat (.int 3), g3, g4, g5, g6, g7, g8, g9, g10, .dat (.int 3), .dat (.tuple [.list [.list [.int 0, .int 1], .list [.int 1, .int 0]], .list [.list [.int 0, .int 0], .list [.int 0, .int 1]]]), .dat (.list [.tuple [.int 0, .int 0, .int 0], .tuple [.int 0, .int 0, .int 1], .tuple [.int 0, .int 1, .int 0], .tuple [.int 0, .int 1, .int 1], .tuple [.int 1, .int 0, .int 0], .tuple [.int 1, .int 0, .int 1], .tuple [.int 1, .int 1, .int 0], .tuple [.int 1, .int 1, .int 1]]), .dat (.list []), .dat (.tuple [.int 0, .int 1, .int 0, .int 0, .int 1, .int 1, .int 1, .int 1, .int 1]), .dat (.tuple [.tuple [.int 0, .int 1, .int 0], .tuple [.int 0, .int 1, .int 1], .tuple [.int 1, .int 1, .int 1]]), .un, .un, .un, .un, .un, .un, .un, .un, .un, .un] = .nx [.un, .drw a k ns, .dat (.int 3), g3, g4, g5, g6, g7, g8, g9, g10, .dat (.int 3), .dat (.tuple [.list [.list [.int 0, .int 1], .list [.int 1, .int 0]], .list [.list [.int 0, .int 0], .list [.int 0, .int 1]]]), .dat (.list [.tuple [.int 0, .int 0, .int 0], .tuple [.int 0, .int 0, .int 1], .tuple [.int 0, .int 1, .int 0], .tuple [.int 0, .int 1, .int 1], .tuple [.int 1, .int 0, .int 0], .tuple [.int 1, .int 0, .int 1], .tuple [.int 1, .int 1, .int 0], .tuple [.int 1, .int 1, .int 1]]), .dat (.list []), .dat (.tuple [.int 0, .int 1, .int 0, .int 1, .int 1, .int 1, .int 1, .int 1, .int 1]), .dat (.tuple [.tuple [.int 0, .int 1, .int 0], .tuple [.int 1, .int 1, .int 1], .tuple [.int 1, .int 1, .int 1]]), .un, .un, .un, .un, .un, .un, .un, .un, .un, .un] := by kernel_rfl
theorem ck_6 {a : Addr} {k : Int} {ns : List Int} {g3 g4 g5 g6 g7 g8 g9 g10 : Slot} : forL (gN 15) lpB (((wL 9).drop 192).take 32) [.un, .drw a k ns, .dat (.int 3), g3, g4, g5, g6, g7, g8, g9, g10, .dat (.int 3), .dat (.tuple [.list [.list [.int 0, .int 1], .list [.int 1, .int 0]], .list [.list [.int 0, .int 0], .list [.int 0, .int 1]]]), .dat (.list [.tuple [.int 0, .int 0, .int 0], .tuple [.int 0, .int 0, .int 1], .tuple [.int 0, .int 1, .int 0], .tuple [.int 0, .int 1, .int 1], .tuple [.int 1, .int 0, .int 0], .tuple [.int 1, .int 0, .int 1], .tuple [.int 1, .int 1, .int 0], .tuple [.int 1, .int 1, .int 1]]), .dat (.list []), .dat (.tuple [.int 0, .int 1, .int 0, .int 1, .int 1, .int 1, .int 1, .int 1, .int 1]), .dat (.tuple [.tuple [.int 0, .int 1, .int 0], .tuple [.int 1, .int 1, .int 1], .tuple [.int 1, .int 1, .int 1]]), .un, .un, .un, .un, .un, .un, .un, .un, .un, .un] = .nx [.un, .drw a k ns, .dat (.int 3), g3, g4, g5, g6, g7, g8, g9, g10, .dat (.int 3), .dat (.tuple [.list [.list [.int 0, .int 1], .list [.int 1, .int 0]], .list [.list [.int 0, .int 0], .list [.int 0, .int 1]]]), .dat (.list [.tuple [.int 0, .int 0, .int 0], .tuple [.int 0, .int 0, .int 1], .tuple [.int 0, .int 1, .int 0], .tuple [.int 0, .int 1, .int 1], .tuple [.int 1, .int 0, .int 0], .tuple [.int 1, .int 0, .int 1], .tuple [.int 1, .int 1, .int 0], .tuple [.int 1, .int 1, .int 1]]), .dat (.list []), .dat (.tuple [.int 0, .int 1, .int 1, .int 0, .int 1, .int 1, .int 1, .int 1, .int 1]), .dat (.tuple [.tuple [.int 0, .int 1, .int 1], .tuple [.int 0, .int 1, .int 1], .tuple [.int 1, .int 1, .int 1]]), .un, .un, .un, .un, .un, .un, .un, .un, .un, .un] := by kernel_rfl
theorem ck_7 {a : Addr} {k : Int} {ns : List Int} {g3 g4 g5 g6 g7 g8 g9 g10 : Slot} : forL (gN 15) lpB (((wL 9).drop 224).take 32) [.un, .drw a k ns, .dat (.int 3), g3, g4, g5, g6, g7, g8, g9, g10, .dat (.int 3), .dat (.tuple [.list [.list [.int 0, .int 1], .list [.int 1, .int 0]], .list [.list [.int 0, .int 0], .list [.int 0, .int 1]]]), .dat (.list [.tuple [.int 0, .int 0, .int 0], .tuple [.int 0, .int 0, .int 1], .tuple [.int 0, .int 1, .int 0], .tuple [.int 0, .int 1, .int 1], .tuple [.int 1, .int 0, .int 0], .tuple [.int 1, .int 0, .int 1], .tuple [.int 1, .int 1, .int 0], .tuple [.int 1, .int 1, .int 1]]), .dat (.list []), .dat (.tuple [.int 0, .int 1, .int 1, .int 0, .int 1, .int 1, .int 1, .int 1, .int 1]), .dat (.tuple [.tuple [.int 0, .int 1, .int 1], .tuple [.int 0, .int 1, .int 1], .tuple [.int 1, .int 1, .int 1]]), .un, .un, .un, .un, .un, .un, .un, .un, .un, .un] = .nx [.un, .drw a k ns, .dat (.int 3), g3, g4, g5, g6, g7, g8, g9, g10, .dat (.int 3), .dat (.tuple [.list [.list [.int 0, .int 1], .list [.int 1, .int 0]], .list [.list [.int 0, .int 0], .list [.int 0, .int 1]]]), .dat (.list [.tuple [.int 0, .int 0, .int 0], .tuple [.int 0, .int 0, .int 1], .tuple [.int 0, .int 1, .int 0], .tuple [.int 0, .int 1, .int 1], .tuple [.int 1, .int 0, .int 0], .tuple [.int 1, .int 0, .int 1], .tuple [.int 1, .int 1, .int 0], .tuple [.int 1, .int 1, .int 1]]), .dat (.list []), .dat (.tuple [.int 0, .int 1, .int 1, .int 1, .int 1, .int 1, .int 1, .int 1, .int 1]), .dat (.tuple [.tuple [.int 0, .int 1, .int 1], .tuple [.int 1, .int 1, .int 1], .tuple [.int 1, .int 1, .int 1]]), .un, .un, .un, .un, .un, .un, .un, .un, .un, .un] := by kernel_rfl
theorem ck_8 {a : Addr} {k : Int} {ns : List Int} {g3 g4 g5 g6 g7 g8 g9 g10 : Slot} : forL (gN 15) lpB (((wL 9).drop 256).take 32) [.un, .drw a k ns, .dat (.int 3), g3, g4, g5, g6, g7, g8, g9, g10, .dat (.int 3), .dat (.tuple [.list [.list [.int 0, .int 1], .list [.int 1, .int 0]], .list [.list [.int 0, .int 0], .list [.int 0, .int 1]]]), .dat (.list [.tuple [.int 0, .int 0, .int 0], .tuple [.int 0, .int 0, .int 1], .tuple [.int 0, .int 1, .int 0], .tuple [.int 0, .int 1, .int 1], .tuple [.int 1, .int 0, .int 0], .tuple [.int 1, .int 0, .int 1], .tuple [.int 1, .int 1, .int 0], .tuple [.int 1, .int 1, .int 1]]), .dat (.list []), .dat (.tuple [.int 0, .int 1, .int 1, .int 1, .int 1, .int 1, .int 1, .int 1, .int 1]), .dat (.tuple [.tuple [.int 0, .int 1, .int 1], .tuple [.int 1, .int 1, .int 1], .tuple [.int 1, .int 1, .int 1]]), .un, .un, .un, .un, .un, .un, .un, .un, .un, .un] = .nx [.un, .drw a k ns, .dat (.int 3), g3, g4, g5, g6, g7, g8, g9, g10, .dat (.int 3), .dat (.tuple [.list [.list [.int 0, .int 1], .list [.int 1, .int 0]], .list [.list [.int 0, .int 0], .list [.int 0, .int 1]]]), .dat (.list [.tuple [.int 0, .int 0, .int 0], .tuple [.int 0, .int 0, .int 1], .tuple [.int 0, .int 1, .int 0], .tuple [.int 0, .int 1, .int 1], .tuple [.int 1, .int 0, .int 0], .tuple [.int 1, .int 0, .int 1], .tuple [.int 1, .int 1, .int 0], .tuple [.int 1, .int 1, .int 1]]), .dat (.list [.tuple [.tuple [.int 1, .int 0, .int 0], .tuple [.int 0, .int 1, .int 0], .tuple [.int 0, .int 0, .int 1]]]), .dat (.tuple [.int 1, .int 0, .int 0, .int 0, .int 1, .int 1, .int 1, .int 1, .int 1]), .dat (.tuple [.tuple [.int 1, .int 0, .int 0], .tuple [.int 0, .int 1, .int 1], .tuple [.int 1, .int 1, .int 1]]), .un, .un, .un, .un, .un, .un, .un, .un, .un, .un] := by kernel_rfl
theorem ck_9 {a : Addr} {k : Int} {ns : List Int} {g3 g4 g5 g6 g7 g8 g9 g10 : Slot} : forL (gN 15) lpB (((wL 9).drop 288).take 32) [.un, .drw a k ns, .dat (.int 3), g3, g4, g5, g6, g7, g8, g9, g10, .dat (.int 3), .dat (.tuple [.list [.list [.int 0, .int 1], .list [.int 1, .int 0]], .list [.list [.int 0, .int 0], .list [.int 0, .int 1]]]), .dat (.list [.tuple [.int 0, .int 0, .int 0], .tuple [.int 0, .int 0, .int 1], .tuple [.int 0, .int 1, .int 0], .tuple [.int 0, .int 1, .int 1], .tuple [.int 1, .int 0, .int 0], .tuple [.int 1, .int 0, .int 1], .tuple [.int 1, .int 1, .int 0], .tuple [.int 1, .int 1, .int 1]]), .dat (.list [.tuple [.tuple [.int 1, .int 0, .int 0], .tuple [.int 0, .int 1, .int 0], .tuple [.int 0, .int 0, .int 1]]]), .dat (.tuple [.int 1, .int 0, .int 0, .int 0, .int 1, .int 1, .int 1, .int 1, .int 1]), .dat (.tuple [.tuple [.int 1, .int 0, .int 0], .tuple [.int 0, .int 1, .int 1], .tuple [.int 1, .int 1, .int 1]]), .un, .un, .un, .un, .un, .un, .un, .un, .un, .un] = .nx [.un, .drw a k ns, .dat (.int 3), g3, g4, g5, g6, g7, g8, g9, g10, .dat (.int 3), .dat (.tuple [.list [.list [.int 0, .int 1], .list [.int 1, .int 0]], .list [.list [.int 0, .int 0], .list [.int 0, .int 1]]]), .dat (.list [.tuple [.int 0, .int 0, .int 0], .tuple [.int 0, .int 0, .int 1], .tuple [.int 0, .int 1, .int 0], .tuple [.int 0, .int 1, .int 1], .tuple [.int 1, .int 0, .int 0], .tuple [.int 1, .int 0, .int 1], .tuple [.int 1, .int 1, .int 0], .tuple [.int 1, .int 1, .int 1]]), .dat (.list [.tuple [.tuple [.int 1, .int 0, .int 0], .tuple [.int 0, .int 1, .int 0], .tuple [.int 0, .int 0, .int 1]]]), .dat (.tuple [.int 1, .int 0, .int 0, .int 1, .int 1, .int 1, .int 1, .int 1, .int 1]), .dat (.tuple [.tuple [.int 1, .int 0, .int 0], .tuple [.int 1, .int 1, .int 1], .tuple [.int 1, .int 1, .int 1]]), .un, .un, .un, .un, .un, .un, .un, .un, .un, .un] := by kernel_rfl
theorem ck_10 {a : Addr} {k : Int} {ns : List Int} {g3 g4 g5 g6 g7 g8 g9 g10 : Slot} : forL (gN 15) lpB (((wL 9).drop 320).take 32) [.un, .drw a k ns, .dat (.int 3), g3, g4, g5, g6, g7, g8, g9, g10, .dat (.int 3), .dat (.tuple [.list [.list [.int 0, .int 1], .list [.int 1, .int 0]], .list [.list [.int 0, .int 0], .list [.int 0, .int 1]]]), .dat (.list [.tuple [.int 0, .int 0, .int 0], .tuple [.int 0, .int 0, .int 1], .tuple [.int 0, .int 1, .int 0], .tuple [.int 0, .int 1, .int 1], .tuple [.int 1, .int 0, .int 0], .tuple [.int 1, .int 0, .int 1], .tuple [.int 1, .int 1, .int 0], .tuple [.int 1, .int 1, .int 1]]), .dat (.list [.tuple [.tuple [.int 1, .int 0, .int 0], .tuple [.int 0, .int 1, .int 0], .tuple [.int 0, .int 0, .int 1]]]), .dat (.tuple [.int 1, .int 0, .int 0, .int 1, .int 1, .int 1, .int 1, .int 1, .int 1]), .dat (.tuple [.tuple [.int 1, .int 0, .int 0], .tuple [.int 1, .int 1, .int 1], .tuple [.int 1, .int 1, .int 1]]), .un, .un, .un, .un, .un, .un, .un, .un, .un, .un] = .nx [.un, .drw a k ns, .dat (.int 3), g3, g4, g5, g6, g7, g8, g9, g10, .dat (.int 3), .dat (.tuple [.list [.list [.int 0, .int 1], .list [.int 1, .int 0]], .list [.list [.int 0, .int 0], .list [.int 0, .int 1]]]), .dat (.list [.tuple [.int 0, .int 0, .int 0], .tuple [.int 0, .int 0, .int 1], .tuple [.int 0, .int 1, .int 0], .tuple [.int 0, .int 1, .int 1], .tuple [.int 1, .int 0, .int 0], .tuple [.int 1, .int 0, .int 1], .tuple [.int 1, .int 1, .int 0], .tuple [.int 1, .int 1, .int 1]]), .dat (.list [.tuple [.tuple [.int 1, .int 0, .int 0], .tuple [.int 0, .int 1, .int 0], .tuple [.int 0, .int 0, .int 1]]]), .dat (.tuple [.int 1, .int 0, .int 1, .int 0, .int 1, .int 1, .int 1, .int 1, .int 1]), .dat (.tuple [.tuple [.int 1, .int 0, .int 1], .tuple [.int 0, .int 1, .int 1], .tuple [.int 1, .int 1, .int 1]]), .un, .un, .un, .un, .un, .un, .un, .un, .un, .un] := by kernel_rfl
theorem ck_11 {a : Addr} {k : Int} {ns : List Int} {g3 g4 g5 g6 g7 g8 g9 g10 : Slot} : forL (gN 15) lpB (((wL 9).drop 352).take 32) [.un, .drw a k ns, .dat (.int 3), g3, g4, g5, g6, g7, g8, g9, g10, .dat (.int 3), .dat (.tuple [.list [.list [.int 0, .int 1], .list [.int 1, .int 0]], .list [.list [.int 0, .int 0], .list [.int 0, .int 1]]]), .dat (.list [.tuple [.int 0, .int 0, .int 0], .tuple [.int 0, .int 0, .int 1], .tuple [.int 0, .int 1, .int 0], .tuple [.int 0, .int 1, .int 1], .tuple [.int 1, .int 0, .int 0], .tuple [.int 1, .int 0, .int 1], .tuple [.int 1, .int 1, .int 0], .tuple [.int 1, .int 1, .int 1]]), .dat (.list [.tuple [.tuple [.int 1, .int 0, .int 0], .tuple [.int 0, .int 1, .int 0], .tuple [.int 0, .int 0, .int 1]]]), .dat (.tuple [.int 1, .int 0, .int 1, .int 0, .int 1, .int 1, .int 1, .int 1, .int 1]), .dat (.tuple [.tuple [.int 1, .int 0, .int 1], .tuple [.int 0, .int 1, .int 1], .tuple [.int 1, .int 1, .int 1]]), .un, .un, .un, .un, .un, .un, .un, .un, .un, .un] = .nx [.un, .drw a k ns, .dat (.int 3), g3, g4, g5, g6, g7, g8, g9, g10, .dat (.int 3), .dat (.tuple [.list [.list [.int 0, .int 1], .list [.int 1, .int 0]], .list [.list [.int 0, .int 0], .list [.int 0, .int 1]]]), .dat (.list [.tuple [.int 0, .int 0, .int 0], .tuple [.int 0, .int 0, .int 1], .tuple [.int 0, .int 1, .int 0], .tuple [.int 0, .int 1, .int 1], .tuple [.int 1, .int 0, .int 0], .tuple [.int 1, .int 0, .int 1], .tuple [.int 1, .int 1, .int 0], .tuple [.int 1, .int 1, .int 1]]), .dat (.list [.tuple [.tuple [.int 1, .int 0, .int 0], .tuple [.int 0, .int 1, .int 0], .tuple [.int 0, .int 0, .int 1]]]), .dat (.tuple [.int 1, .int 0, .int 1, .int 1, .int 1, .int 1, .int 1, .int 1, .int 1]), .dat (.tuple [.tuple [.int 1, .int 0, .int 1], .tuple [.int 1, .int 1, .int 1], .tuple [.int 1, .int 1, .int 1]]), .un, .un, .un, .un, .un, .un, .un, .un, .un, .un] := by kernel_rfl
theorem ck_12 {a : Addr} {k : Int} {ns : List Int} {g3 g4 g5 g6 g7 g8 g9 g10 : Slot} : forL (gN 15) lpB (((wL 9).drop 384).take 32) [.un, .drw a k ns, .dat (.int 3), g3, g4, g5, g6, g7, g8, g9, g10, .dat (.int 3), .dat (.tuple [.list [.list [.int 0, .int 1], .list [.int 1, .int 0]], .list [.list [.int 0, .int 0], .list [.int 0, .int 1]]]), .dat (.list [.tuple [.int 0, .int 0, .int 0], .tuple [.int 0, .int 0, .int 1], .tuple [.int 0, .int 1, .int 0], .tuple [.int 0, .int 1, .int 1], .tuple [.int 1, .int 0, .int 0], .tuple [.int 1, .int 0, .int 1], .tuple [.int 1, .int 1, .int 0], .tuple [.int 1, .int 1, .int 1]]), .dat (.list [.tuple [.tuple [.int 1, .int 0, .int 0], .tuple [.int 0, .int 1, .int 0], .tuple [.int 0, .int 0, .int 1]]]), .dat (.tuple [.int 1, .int 0, .int 1, .int 1, .int 1, .int 1, .int 1, .int 1, .int 1]), .dat (.tuple [.tuple [.int 1, .int 0, .int 1], .tuple [.int 1, .int 1, .int 1], .tuple [.int 1, .int 1, .int 1]]), .un, .un, .un, .un, .un, .un, .un, .un, .un, .un] = .nx [.un, .drw a k ns, .dat (.int 3), g3, g4, g5, g6, g7, g8, g9, g10, .dat (.int 3), .dat (.tuple [.list [.list [.int 0, .int 1], .list [.int 1, .int 0]], .list [.list [.int 0, .int 0], .list [.int 0, .int 1]]]), .dat (.list [.tuple [.int 0, .int 0, .int 0], .tuple [.int 0, .int 0, .int 1], .tuple [.int 0, .int 1, .int 0], .tuple [.int 0, .int 1, .int 1], .tuple [.int 1, .int 0, .int 0], .tuple [.int 1, .int 0, .int 1], .tuple [.int 1, .int 1, .int 0], .tuple [.int 1, .int 1, .int 1]]), .dat (.list [.tuple [.tuple [.int 1, .int 0, .int 0], .tuple [.int 0, .int 1, .int 0], .tuple [.int 0, .int 0, .int 1]]]), .dat (.tuple [.int 1, .int 1, .int 0, .int 0, .int 1, .int 1, .int 1, .int 1, .int 1]), .dat (.tuple [.tuple [.int 1, .int 1, .int 0], .tuple [.int 0, .int 1, .int 1], .tuple [.int 1, .int 1, .int 1]]), .un, .un, .un, .un, .un, .un, .un, .un, .un, .un] := by kernel_rfl
theorem ck_13 {a : Addr} {k : Int} {ns : List Int} {g3 g4 g5 g6 g7 g8 g9 g10 : Slot} : forL (gN 15) lpB (((wL 9).drop 416).take 32) [.un, .drw a k ns, .dat (.int 3), g3, g4, g5, g6, g7, g8, g9, g10, .dat (.int 3), .dat (.tuple [.list [.list [.int 0, .int 1], .list [.int 1, .int 0]], .list [.list [.int 0, .int 0], .list [.int 0, .int 1]]]), .dat (.list [.tuple [.int 0, .int 0, .int 0], .tuple [.int 0, .int 0, .int 1], .tuple [.int 0, .int 1, .int 0], .tuple [.int 0, .int 1, .int 1], .tuple [.int 1, .int 0, .int 0], .tuple [.int 1, .int 0, .int 1], .tuple [.int 1, .int 1, .int 0], .tuple [.int 1, .int 1, .int 1]]), .dat (.list [.tuple [.tuple [.int 1, .int 0, .int 0], .tuple [.int 0, .int 1, .int 0], .tuple [.int 0, .int 0, .int 1]]]), .dat (.tuple [.int 1, .int 1, .int 0, .int 0, .int 1, .int 1, .int 1, .int 1, .int 1]), .dat (.tuple [.tuple [.int 1, .int 1, .int 0], .tuple [.int 0, .int 1, .int 1], .tuple [.int 1, .int 1, .int 1]]), .un, .un, .un, .un, .un, .un, .un, .un, .un, .un] = .nx [.un, .drw a k ns, .dat (.int 3), g3, g4, g5, g6, g7, g8, g9, g10, .dat (.int 3), .dat (.tuple [.list [.list [.int 0, .int 1], .list [.int 1, .int 0]], .list [.list [.int 0, .int 0], .list [.int 0, .int 1]]]), .dat (.list [.tuple [.int 0, .int 0, .int 0], .tuple [.int 0, .int 0, .int 1], .tuple [.int 0, .int 1, .int 0], .tuple [.int 0, .int 1, .int 1], .tuple [.int 1, .int 0, .int 0], .tuple [.int 1, .int 0, .int 1], .tuple [.int 1, .int 1, .int 0], .tuple [.int 1, .int 1, .int 1]]), .dat (.list [.tuple [.tuple [.int 1, .int 0, .int 0], .tuple [.int 0, .int 1, .int 0], .tuple [.int 0, .int 0, .int 1]]]), .dat (.tuple [.int 1, .int 1, .int 0, .int 1, .int 1, .int 1, .int 1, .int 1, .int 1]), .dat (.tuple [.tuple [.int 1, .int 1, .int 0], .tuple [.int 1, .int 1, .int 1], .tuple [.int 1, .int 1, .int 1]]), .un, .un, .un, .un, .un, .un, .un, .un, .un, .un] := by kernel_rfl
theorem ck_14 {a : Addr} {k : Int} {ns : List Int} {g3 g4 g5 g6 g7 g8 g9 g10 : Slot} : forL (gN 15) lpB (((wL 9).drop 448).take 32) [.un, .drw a k ns, .dat (.int 3), g3, g4, g5, g6, g7, g8, g9, g10, .dat (.int 3), .dat (.tuple [.list [.list [.int 0, .int 1], .list [.int 1, .int 0]], .list [.list [.int 0, .int 0], .list [.int 0, .int 1]]]), .dat (.list [.tuple [.int 0, .int 0, .int 0], .tuple [.int 0, .int 0, .int 1], .tuple [.int 0, .int 1, .int 0], .tuple [.int 0, .int 1, .int 1], .tuple [.int 1, .int 0, .int 0], .tuple [.int 1, .int 0, .int 1], .tuple [.int 1, .int 1, .int 0], .tuple [.int 1, .int 1, .int 1]]), .dat (.list [.tuple [.tuple [.int 1, .int 0, .int 0], .tuple [.int 0, .int 1, .int 0], .tuple [.int 0, .int 0, .int 1]]]), .dat (.tuple [.int 1, .int 1, .int 0, .int 1, .int 1, .int 1, .int 1, .int 1, .int 1]), .dat (.tuple [.tuple [.int 1, .int 1, .int 0], .tuple [.int 1, .int 1, .int 1], .tuple [.int 1, .int 1, .int 1]]), .un, .un, .un, .un, .un, .un, .un, .un, .un, .un] = .nx [.un, .drw a k ns, .dat (.int 3), g3, g4, g5, g6, g7, g8, g9, g10, .dat (.int 3), .dat (.tuple [.list [.list [.int 0, .int 1], .list [.int 1, .int 0]], .list [.list [.int 0, .int 0], .list [.int 0, .int 1]]]), .dat (.list [.tuple [.int 0, .int 0, .int 0], .tuple [.int 0, .int 0, .int 1], .tuple [.int 0, .int 1, .int 0], .tuple [.int 0, .int 1, .int 1], .tuple [.int 1, .int 0, .int 0], .tuple [.int 1, .int 0, .int 1], .tuple [.int 1, .int 1, .int 0], .tuple [.int 1, .int 1, .int 1]]), .dat (.list [.tuple [.tuple [.int 1, .int 0, .int 0], .tuple [.int 0, .int 1, .int 0], .tuple [.int 0, .int 0, .int 1]]]), .dat (.tuple [.int 1, .int 1, .int 1, .int 0, .int 1, .int 1, .int 1, .int 1, .int 1]), .dat (.tuple [.tuple [.int 1, .int 1, .int 1], .tuple [.int 0, .int 1, .int 1], .tuple [.int 1, .int 1, .int 1]]), .un, .un, .un, .un, .un, .un, .un, .un, .un, .un] := by kernel_rfl
theorem ck_15 {a : Addr} {k : Int} {ns : List Int} {g3 g4 g5 g6 g7 g8 g9 g10 : Slot} : forL (gN 15) lpB (((wL 9).drop 480).take 32) [.un, .drw a k ns, .dat (.int 3), g3, g4, g5, g6, g7, g8, g9, g10, .dat (.int 3), .dat (.tuple [.list [.list [.int 0, .int 1], .list [.int 1, .int 0]], .list [.list [.int 0, .int 0], .list [.int 0, .int 1]]]), .dat (.list [.tuple [.int 0, .int 0, .int 0], .tuple [.int 0, .int 0, .int 1], .tuple [.int 0, .int 1, .int 0], .tuple [.int 0, .int 1, .int 1], .tuple [.int 1, .int 0, .int 0], .tuple [.int 1, .int 0, .int 1], .tuple [.int 1, .int 1, .int 0], .tuple [.int 1, .int 1, .int 1]]), .dat (.list [.tuple [.tuple [.int 1, .int 0, .int 0], .tuple [.int 0, .int 1, .int 0], .tuple [.int 0, .int 0, .int 1]]]), .dat (.tuple [.int 1, .int 1, .int 1, .int 0, .int 1, .int 1, .int 1, .int 1, .int 1]), .dat (.tuple [.tuple [.int 1, .int 1, .int 1], .tuple [.int 0, .int 1, .int 1], .tuple [.int 1, .int 1, .int 1]]), .un, .un, .un, .un, .un, .un, .un, .un, .un, .un] = .nx [.un, .drw a k ns, .dat (.int 3), g3, g4, g5, g6, g7, g8, g9, g10, .dat (.int 3), .dat (.tuple [.list [.list [.int 0, .int 1], .list [.int 1, .int 0]], .list [.list [.int 0, .int 0], .list [.int 0, .int 1]]]), .dat (.list [.tuple [.int 0, .int 0, .int 0], .tuple [.int 0, .int 0, .int 1], .tuple [.int 0, .int 1, .int 0], .tuple [.int 0, .int 1, .int 1], .tuple [.int 1, .int 0, .int 0], .tuple [.int 1, .int 0, .int 1], .tuple [.int 1, .int 1, .int 0], .tuple [.int 1, .int 1, .int 1]]), .dat (.list [.tuple [.tuple [.int 1, .int 0, .int 0], .tuple [.int 0, .int 1, .int 0], .tuple [.int 0, .int 0, .int 1]]]), .dat (.tuple [.int 1, .int 1, .int 1, .int 1, .int 1, .int 1, .int 1, .int 1, .int 1]), .dat (.tuple [.tuple [.int 1, .int 1, .int 1], .tuple [.int 1, .int 1, .int 1], .tuple [.int 1, .int 1, .int 1]]), .un, .un, .un, .un, .un, .un, .un, .un, .un, .un] := by kernel_rfl
theorem ck_end {a : Addr} {k : Int} {ns : List Int} {g3 g4 g5 g6 g7 g8 g9 g10 : Slot} : isT (b_t1 [.un, .drw a k ns, .dat (.int 3), g3, g4, g5, g6, g7, g8, g9, g10, .dat (.int 3), .dat (.tuple [.list [.list [.int 0, .int 1], .list [.int 1, .int 0]], .list [.list [.int 0, .int 0], .list [.int 0, .int 1]]]), .dat (.list [.tuple [.int 0, .int 0, .int 0], .tuple [.int 0, .int 0, .int 1], .tuple [.int 0, .int 1, .int 0], .tuple [.int 0, .int 1, .int 1], .tuple [.int 1, .int 0, .int 0], .tuple [.int 1, .int 0, .int 1], .tuple [.int 1, .int 1, .int 0], .tuple [.int 1, .int 1, .int 1]]), .dat (.list [.tuple [.tuple [.int 1, .int 0, .int 0], .tuple [.int 0, .int 1, .int 0], .tuple [.int 0, .int 0, .int 1]]]), .dat (.tuple [.int 1, .int 1, .int 1, .int 1, .int 1, .int 1, .int 1, .int 1, .int 1]), .dat (.tuple [.tuple [.int 1, .int 1, .int 1], .tuple [.int 1, .int 1, .int 1], .tuple [.int 1, .int 1, .int 1]]), .un, .un, .un, .un, .un, .un, .un, .un, .un, .un]) = true := by kernel_rfl
end FW

/-! Q16f: the second half for three and three. -/
namespace FW
open PySem PySem.Spec L2
open PyProof.Rows hiding St
theorem sSeq_nx {f g : SM} {S S1 : List Slot} (h : f S = .nx S1) : sSeq f g S = g S1 := by
  unfold sSeq
  rw [h]
def NoBk (f : SM) : Prop := ∀ S S', f S ≠ .bk S'
theorem nbk_seq {f g : SM} (hf : NoBk f) (hg : NoBk g) : NoBk (sSeq f g) := by
  intro S S' e
  unfold sSeq at e
  cases h : f S with
  | nx S1 => rw [h] at e; exact hg _ _ e
  | bk S1 => exact hf _ _ h
  | _ => rw [h] at e; cases e
theorem nbk_set {i : Nat} {f : EM D} : NoBk (sSet i f) := by
  intro S S' e
  unfold sSet sAsg sOf at e
  cases h : f S with
  | ok d S1 =>
    rw [h] at e
    dsimp only at e
    split at e <;> cases e
  | _ => rw [h] at e; cases e
theorem nbk_nx : NoBk sNx := by
  intro S S' e
  cases e
theorem forL_cons {g : Tg} {f : SM} {x : D} {xs : List D} {S : List Slot} : forL g f (x :: xs) S = match g x S with
    | none => .bad
    | some S1 => match f S1 with
      | .nx S2 => forL g f xs S2
      | .ct S2 => forL g f xs S2
      | .bk S2 => .nx S2
      | o => o := rfl
theorem forL_app {g : Tg} {f : SM} (hf : NoBk f) : ∀ {xs ys : List D} {S S1 : List Slot}, forL g f xs S = .nx S1 → forL g f (xs ++ ys) S = forL g f ys S1
  | [], ys, S, S1, h => by
    have e : S = S1 := Out.nx.inj h
    rw [e]
    rfl
  | x :: xs, ys, S, S1, h => by
    rw [List.cons_append, forL_cons]
    rw [forL_cons] at h
    cases e : g x S with
    | none => rw [e] at h; cases h
    | some S2 =>
      rw [e] at h
      dsimp only at h ⊢
      cases e2 : f S2 with
      | nx S3 => rw [e2] at h; exact forL_app hf h
      | ct S3 => rw [e2] at h; exact forL_app hf h
      | bk S3 => exact absurd e2 (hf _ _)
      | _ => rw [e2] at h; cases h
theorem sFor_ok {src : EM (List D)} {g : Tg} {f : SM} {S S1 : List Slot} {ds : List D} (h : src S = .ok ds S1) : sFor src g f S = forL g f ds S1 := by
  unfold sFor sOf
  rw [h]
theorem lp_zero {W : List D} {S : List Slot} : forL (gN 15) lpB W S = forL (gN 15) lpB (W.drop 0) S := rfl
theorem lp_last {W : List D} {S : List Slot} (h : W.drop 512 = []) : forL (gN 15) lpB (W.drop 512) S = .nx S := by
  rw [h]
  rfl
theorem lp_step {W : List D} {i : Nat} {S S1 : List Slot} (h : forL (gN 15) lpB ((W.drop i).take 32) S = .nx S1) : forL (gN 15) lpB (W.drop i) S = forL (gN 15) lpB (W.drop (i + 32)) S1 := by
  have hb : NoBk lpB := nbk_seq nbk_set (nbk_seq nbk_set nbk_nx)
  have e : W.drop i = (W.drop i).take 32 ++ W.drop (i + 32) := by
    rw [← List.drop_drop, List.take_append_drop]
  rw [e]
  exact forL_app hb h
def b_p12 : SM := (sAsg (eTup (aCons (eCall 1 (f__law_field) (aCons (eC (.int 2)) (aNil))) (aCons (eCall 2 (f__law_words) (aCons (eC (.int 2)) (aCons (eV 2) (aNil)))) (aNil)))) (gT (gsCons (gN 12) (gsCons (gN 13) (gsNil))) 2))
def b_p14 : SM := (sSet 14 (eLst (aNil)))
def b_src : EM (List D) := (iA (eCall 2 (f__law_words) (aCons (eC (.int 2)) (aCons (eBin mulD (eV 2) (eV 11)) (aNil)))))
theorem tail_split : b_tail = sSeq b_p12 (sSeq b_p14 (sSeq (sFor b_src (gN 15) lpB) b_t1)) := rfl
theorem p12_33 {a : Addr} {k : Int} {ns : List Int} {g3 g4 g5 g6 g7 g8 g9 g10 : Slot} : b_p12 [.un, .drw a k ns, .dat (.int 3), g3, g4, g5, g6, g7, g8, g9, g10, .dat (.int 3), .un, .un, .un, .un, .un, .un, .un, .un, .un, .un, .un, .un, .un, .un, .un] = .nx [.un, .drw a k ns, .dat (.int 3), g3, g4, g5, g6, g7, g8, g9, g10, .dat (.int 3), .dat (.tuple [.list [.list [.int 0, .int 1], .list [.int 1, .int 0]], .list [.list [.int 0, .int 0], .list [.int 0, .int 1]]]), .dat (.list [.tuple [.int 0, .int 0, .int 0], .tuple [.int 0, .int 0, .int 1], .tuple [.int 0, .int 1, .int 0], .tuple [.int 0, .int 1, .int 1], .tuple [.int 1, .int 0, .int 0], .tuple [.int 1, .int 0, .int 1], .tuple [.int 1, .int 1, .int 0], .tuple [.int 1, .int 1, .int 1]]), .un, .un, .un, .un, .un, .un, .un, .un, .un, .un, .un, .un, .un] := by kernel_rfl
theorem p14_33 {a : Addr} {k : Int} {ns : List Int} {g3 g4 g5 g6 g7 g8 g9 g10 : Slot} : b_p14 [.un, .drw a k ns, .dat (.int 3), g3, g4, g5, g6, g7, g8, g9, g10, .dat (.int 3), .dat (.tuple [.list [.list [.int 0, .int 1], .list [.int 1, .int 0]], .list [.list [.int 0, .int 0], .list [.int 0, .int 1]]]), .dat (.list [.tuple [.int 0, .int 0, .int 0], .tuple [.int 0, .int 0, .int 1], .tuple [.int 0, .int 1, .int 0], .tuple [.int 0, .int 1, .int 1], .tuple [.int 1, .int 0, .int 0], .tuple [.int 1, .int 0, .int 1], .tuple [.int 1, .int 1, .int 0], .tuple [.int 1, .int 1, .int 1]]), .un, .un, .un, .un, .un, .un, .un, .un, .un, .un, .un, .un, .un] = .nx [.un, .drw a k ns, .dat (.int 3), g3, g4, g5, g6, g7, g8, g9, g10, .dat (.int 3), .dat (.tuple [.list [.list [.int 0, .int 1], .list [.int 1, .int 0]], .list [.list [.int 0, .int 0], .list [.int 0, .int 1]]]), .dat (.list [.tuple [.int 0, .int 0, .int 0], .tuple [.int 0, .int 0, .int 1], .tuple [.int 0, .int 1, .int 0], .tuple [.int 0, .int 1, .int 1], .tuple [.int 1, .int 0, .int 0], .tuple [.int 1, .int 0, .int 1], .tuple [.int 1, .int 1, .int 0], .tuple [.int 1, .int 1, .int 1]]), .dat (.list []), .un, .un, .un, .un, .un, .un, .un, .un, .un, .un, .un, .un] := by kernel_rfl
theorem src_33 {a : Addr} {k : Int} {ns : List Int} {g3 g4 g5 g6 g7 g8 g9 g10 : Slot} : b_src [.un, .drw a k ns, .dat (.int 3), g3, g4, g5, g6, g7, g8, g9, g10, .dat (.int 3), .dat (.tuple [.list [.list [.int 0, .int 1], .list [.int 1, .int 0]], .list [.list [.int 0, .int 0], .list [.int 0, .int 1]]]), .dat (.list [.tuple [.int 0, .int 0, .int 0], .tuple [.int 0, .int 0, .int 1], .tuple [.int 0, .int 1, .int 0], .tuple [.int 0, .int 1, .int 1], .tuple [.int 1, .int 0, .int 0], .tuple [.int 1, .int 0, .int 1], .tuple [.int 1, .int 1, .int 0], .tuple [.int 1, .int 1, .int 1]]), .dat (.list []), .un, .un, .un, .un, .un, .un, .un, .un, .un, .un, .un, .un] = .ok (wL 9) [.un, .drw a k ns, .dat (.int 3), g3, g4, g5, g6, g7, g8, g9, g10, .dat (.int 3), .dat (.tuple [.list [.list [.int 0, .int 1], .list [.int 1, .int 0]], .list [.list [.int 0, .int 0], .list [.int 0, .int 1]]]), .dat (.list [.tuple [.int 0, .int 0, .int 0], .tuple [.int 0, .int 0, .int 1], .tuple [.int 0, .int 1, .int 0], .tuple [.int 0, .int 1, .int 1], .tuple [.int 1, .int 0, .int 0], .tuple [.int 1, .int 0, .int 1], .tuple [.int 1, .int 1, .int 0], .tuple [.int 1, .int 1, .int 1]]), .dat (.list []), .un, .un, .un, .un, .un, .un, .un, .un, .un, .un, .un, .un] := by
  have m9 : mulD (.int 3) (.int 3) = some (.int 9) := by kernel_rfl
  have h : Ep b_src [.un, .drw a k ns, .dat (.int 3), g3, g4, g5, g6, g7, g8, g9, g10, .dat (.int 3), .dat (.tuple [.list [.list [.int 0, .int 1], .list [.int 1, .int 0]], .list [.list [.int 0, .int 0], .list [.int 0, .int 1]]]), .dat (.list [.tuple [.int 0, .int 0, .int 0], .tuple [.int 0, .int 0, .int 1], .tuple [.int 0, .int 1, .int 0], .tuple [.int 0, .int 1, .int 1], .tuple [.int 1, .int 0, .int 0], .tuple [.int 1, .int 0, .int 1], .tuple [.int 1, .int 1, .int 0], .tuple [.int 1, .int 1, .int 1]]), .dat (.list []), .un, .un, .un, .un, .un, .un, .un, .un, .un, .un, .un, .un] fun ds S => ds = wL 9 ∧ S = [.un, .drw a k ns, .dat (.int 3), g3, g4, g5, g6, g7, g8, g9, g10, .dat (.int 3), .dat (.tuple [.list [.list [.int 0, .int 1], .list [.int 1, .int 0]], .list [.list [.int 0, .int 0], .list [.int 0, .int 1]]]), .dat (.list [.tuple [.int 0, .int 0, .int 0], .tuple [.int 0, .int 0, .int 1], .tuple [.int 0, .int 1, .int 0], .tuple [.int 0, .int 1, .int 1], .tuple [.int 1, .int 0, .int 0], .tuple [.int 1, .int 0, .int 1], .tuple [.int 1, .int 1, .int 0], .tuple [.int 1, .int 1, .int 1]]), .dat (.list []), .un, .un, .un, .un, .un, .un, .un, .un, .un, .un, .un, .un] := by
    unfold b_src
    simp only [↓kPre, kPost, m9, words9, walk_l, and_self]
  obtain ⟨_, _, e, rfl, rfl⟩ := h
  exact e
theorem w512 : (wL 9).drop 512 = [] := by kernel_rfl
theorem tt_33 {a : Addr} {k : Int} {ns : List Int} {g3 g4 g5 g6 g7 g8 g9 g10 : Slot} : isT (b_tail [.un, .drw a k ns, .dat (.int 3), g3, g4, g5, g6, g7, g8, g9, g10, .dat (.int 3), .un, .un, .un, .un, .un, .un, .un, .un, .un, .un, .un, .un, .un, .un, .un]) = true := by
  rw [tail_split, sSeq_nx p12_33, sSeq_nx p14_33]
  refine (congrArg isT (sSeq_nx ?_)).trans (ck_end (a := a) (k := k) (ns := ns) (g3 := g3) (g4 := g4) (g5 := g5) (g6 := g6) (g7 := g7) (g8 := g8) (g9 := g9) (g10 := g10))
  refine (sFor_ok src_33).trans ?_
  refine (lp_zero (W := wL 9)).trans ?_
  refine ((lp_step (i := 0) ck_0).trans ((lp_step (i := 32) ck_1).trans ((lp_step (i := 64) ck_2).trans ((lp_step (i := 96) ck_3).trans ((lp_step (i := 128) ck_4).trans ((lp_step (i := 160) ck_5).trans ((lp_step (i := 192) ck_6).trans ((lp_step (i := 224) ck_7).trans ((lp_step (i := 256) ck_8).trans ((lp_step (i := 288) ck_9).trans ((lp_step (i := 320) ck_10).trans ((lp_step (i := 352) ck_11).trans ((lp_step (i := 384) ck_12).trans ((lp_step (i := 416) ck_13).trans ((lp_step (i := 448) ck_14).trans ((lp_step (i := 480) ck_15).trans (?_)))))))))))))))))
  exact lp_last w512
theorem tail_ok {a : Addr} {k : Int} {ns : List Int} {g3 g4 g5 g6 g7 g8 g9 g10 : Slot} {m z : Nat} (h1 : 1 ≤ m) (h3 : m ≤ 3) (hz : z ≤ m) : isT (b_tail [.un, .drw a k ns, .dat (.int m), g3, g4, g5, g6, g7, g8, g9, g10, .dat (.int z), .un, .un, .un, .un, .un, .un, .un, .un, .un, .un, .un, .un, .un, .un, .un]) = true := by
  match m, z, h1, h3, hz with
  | 1, 0, _, _, _ => exact tt_10
  | 1, 1, _, _, _ => exact tt_11
  | 2, 0, _, _, _ => exact tt_20
  | 2, 1, _, _, _ => exact tt_21
  | 2, 2, _, _, _ => exact tt_22
  | 3, 0, _, _, _ => exact tt_30
  | 3, 1, _, _, _ => exact tt_31
  | 3, 2, _, _, _ => exact tt_32
  | 3, 3, _, _, _ => exact tt_33
end FW

/-! Q16e: the law. -/
namespace FW
open PySem PySem.Spec L2
open PyProof.Rows hiding St
def b_rest6 : SM := sSeq (sOwn 5 (eBind (aNil) fun ds => if small ds.length then eRet ds else fun _ => .bad)) (sSeq (sFor (iR1 (aCons (eV 3) (aNil))) (gN 6) (sSeq (sSet 7 (eCall 3 (f__law_sum) (aCons (eV 6) (aCons (eC (.int 0)) (aCons (eV 2) (aNil)))))) (sSeq (sExpr (eMut 5 appD (aCons (eBin subD (eV 3) (eBin mulD (eC (.int 2)) (eCall 2 (f__law_far) (aCons (eV 7) (aCons (eV 4) (aNil)))))) (aNil)))) (sNx)))) (sSeq (sIf (bOr (bOf (eBin neD (eCall 1 (f_transform) (aCons (eV 4) (aNil))) (eVO 5))) (bOf (eBin neD (eB sumD (aCons (eFz (eComp [25] (iA (eV 5)) (gN 25) (bYes) (eBin mulD (eV 25) (eV 25)))) (aNil))) (eBin mulD (eV 3) (eV 3))))) (sSeq (sRet (eC (.bool false))) (sNx)) (sNx)) (sSeq (sIf (bOr (bOf (eBin neD (eCall 1 (f_is_bent) (aCons (eV 4) (aNil))) (eBin eqD (eB lenD (aCons (eFz (eComp [25] (iA (eV 5)) (gN 25) (bOf (eBin neD (eB absD (aCons (eV 25) (aNil))) (eB absD (aCons (eAlt 5 (eIx (eV 5) (eC (.int 0))) (eIxO 5 (eC (.int 0)))) (aNil))))) (eV 25))) (aNil))) (eC (.int 0))))) (bOf (eBin isntD (eCall 1 (f_is_bent) (aCons (eTup (aCons (eC (.int 1)) (aNil))) (aNil))) (eC (.bool false))))) (sSeq (sRet (eC (.bool false))) (sNx)) (sNx)) (sSeq (sParK 8 9 (vD (eV 3)) (vO (eBind (aNil) fun ds => if small ds.length then eRet ds else fun _ => .bad))) (sSeq (sFor (iR1 (aCons (eV 3) (aNil))) (gN 6) (sSeq (sFor (iA (eTup (aCons (eC (.int 0)) (aCons (eC (.int 1)) (aNil))))) (gN 10) (sSeq (sExpr (eMut 9 appD (aCons (eTup (aCons (eCall 2 (f__law_far) (aCons (eCall 3 (f__law_sum) (aCons (eV 6) (aCons (eV 10) (aCons (eV 2) (aNil))))) (aCons (eV 4) (aNil)))) (aCons (eTup (aCons (eV 6) (aCons (eV 10) (aNil)))) (aNil)))) (aNil)))) (sNx))) (sNx))) (sSeq (sSet 8 (eB minD (aCons (eFz (eComp [22] (iA (eV 9)) (gN 22) (bYes) (eIx (eV 22) (eC (.int 0))))) (aNil)))) (sSeq (sIf (bOf (eBin neD (eCall 2 (f_nearest_sums) (aCons (eV 2) (aCons (eV 4) (aNil)))) (eFz (eComp [22] (iA (eV 9)) (gN 22) (bOf (eBin eqD (eIx (eV 22) (eC (.int 0))) (eV 8))) (eIx (eV 22) (eC (.int 1))))))) (sSeq (sRet (eC (.bool false))) (sNx)) (sNx)) (sSeq (sSet 2 (eBin addD (eC (.int 1)) (eCallW 1 2 f__law_take (aCons (eC (.int 3)) (aNil))))) (sSeq (sSet 11 (eCallW 1 2 f__law_take (aCons (eBin addD (eV 2) (eC (.int 1))) (aNil)))) b_tail)))))))))
theorem rangeAt {n i x : Nat} (h : (List.range n)[i]? = some x) : i < n ∧ i = x := by
  obtain ⟨h1, h2⟩ := List.getElem?_eq_some_iff.mp h
  rw [List.length_range] at h1
  rw [List.getElem_range] at h2
  exact ⟨h1, h2⟩
theorem take_snoc {α : Type} {l : List α} {i : Nat} {x : α} (h : l[i]? = some x) : l.take (i + 1) = l.take i ++ [x] := by
  rw [List.take_add_one, h]
  rfl
theorem app_snoc {α : Type} (enc : α → D) {l : List α} {i : Nat} {x : α} (h : l[i]? = some x) (hs : l.length ≤ 1000) : appD ((l.take i).map enc) [enc x] = some (.none, (l.take (i + 1)).map enc) := by
  have hz : (1000000 : Nat) ≤ sizeLine := by decide
  rw [appD_one (by rw [List.length_map, List.length_take]; omega), take_snoc h, List.map_append]
  rfl
theorem isT_ok {f : SM} {S : List Slot} (h : isT (f S) = true) : Wp f S fun o => ∃ S', o = .rt (.bool true) S' := by
  unfold Wp
  cases e : f S with
  | rt d S' =>
    rw [e] at h
    cases d with
    | bool b => cases b with
      | true => exact ⟨rfl, S', rfl⟩
      | false => cases h
    | _ => cases h
  | _ => rw [e] at h; cases h
def two (m : Nat) : List Nat := [0, 1]
def prTake (F : Nat → Nat → Nat) (i j : Nat) : List Pr := ((List.range i).flatMap fun m => [prF F m 0, prF F m 1]) ++ [prF F i 0, prF F i 1].take j
theorem prTake_len {F : Nat → Nat → Nat} {i j : Nat} : (prTake F i j).length ≤ 2 * i + 2 := by
  unfold prTake
  rw [List.length_append, List.length_take]
  have : ∀ n : Nat, ((List.range n).flatMap fun m => [prF F m 0, prF F m 1]).length = 2 * n := by
    intro n
    induction n with
    | zero => rfl
    | succ n ih =>
      rw [List.range_succ, List.flatMap_append, List.length_append, ih]
      simp
      omega
  rw [this]
  simp
  omega
set_option maxHeartbeats 1000000 in
theorem rest6_ok {a : Addr} {k : Int} {ns : List Int} {many : Nat} {w : List Nat} (hn : DrawOk ns) (h1 : 1 ≤ many) (h4 : many ≤ 4) (hl : w.length = 2 ^ many) (hw : ∀ z ∈ w, z < 2) :
    Wp b_rest6 [.un, .drw a k ns, .dat (.int (many : Nat)), .dat (.int (2 ^ many : Nat)), .dat (tN w), .un, .un, .un, .un, .un, .un, .un, .un, .un, .un, .un, .un, .un, .un, .un, .un, .un, .un, .un, .un, .un, .un] fun o => ∃ S, o = .rt (.bool true) S := by
  obtain ⟨t1, t2⟩ := trans_ok h1 h4 hl hw
  have hL : 2 ^ many ≤ 16 := by
    match many, h1, h4 with
    | 1, _, _ => decide
    | 2, _, _ => decide
    | 3, _, _ => decide
    | 4, _, _ => decide
  have hL2 : 2 ≤ 2 ^ many := by
    match many, h1, h4 with
    | 1, _, _ => decide
    | 2, _, _ => decide
    | 3, _, _ => decide
    | 4, _, _ => decide
  obtain ⟨L, eL⟩ : ∃ L, L = 2 ^ many := ⟨_, rfl⟩
  have rk := rowF_ok many h1 h4
  have ls := fun (m c : Nat) (hm : m < 2 ^ many) (hc : c < 2) => law_sum_eq h1 h4 hm hc
  rw [← eL] at hL hL2 hl t2 ⊢
  have rk : ∀ m < L, (rowF many m 0).length = L ∧ (∀ x ∈ rowF many m 0, x < 2) ∧ rowF many m 1 = (rowF many m 0).map (1 - ·) := by rw [eL]; exact rk
  have ls : ∀ (m c : Nat), m < L → c < 2 → f__law_sum [.int (m : Nat), .int (c : Nat), .int (many : Nat)] = .ok (tN (rowF many m c)) := by rw [eL]; exact ls
  obtain ⟨T, eT⟩ : ∃ T, T = toldF many w := ⟨_, rfl⟩
  have hTl : T.length = L := by rw [eT, toldF_len, eL]
  have hTa : ∀ m < L, T.getD m 0 = (L : Int) - 2 * (fdist (rowF many m 0) w : Nat) := fun m hm => by
    rw [eT, toldF_at (by rw [← eL]; exact hm), eL]
  rw [← eT] at t1 t2
  have hT? : ∀ m < L, T[m]? = some ((L : Int) - 2 * (fdist (rowF many m 0) w : Nat)) := fun m hm => by
    rw [← hTa m hm, List.getD_eq_getElem?_getD, List.getElem?_eq_getElem (by omega)]
    rfl
  have hr1 : ∀ m < L, (rowF many m 1).length = L := fun m hm => by rw [(rk m hm).2.2, List.length_map, (rk m hm).1]
  have fr : ∀ m < L, fdist (rowF many m 1) w + fdist (rowF many m 0) w = L := fun m hm => by
    rw [(rk m hm).2.2, fdist_comp (rk m hm).2.1 hw ((rk m hm).1.trans hl.symm), hl]
  unfold b_rest6
  simp only [↓kPre, kPost, rng1_ok (n := L) (by omega), list_range]
  refine W_forX nI (List.range L) (st := fun i (c : Option D × Option D) => [.un, .drw a k ns, .dat (.int (many : Nat)), .dat (.int (L : Nat)), .dat (tN w), .own ((T.take i).map PyData.int), gv c.1, gv c.2, .un, .un, .un, .un, .un, .un, .un, .un, .un, .un, .un, .un, .un, .un, .un, .un, .un, .un, .un]) (none, none) (fun i x hx c => ?_) (fun c => ?_)
  · obtain ⟨hi, rfl⟩ := rangeAt hx
    refine ⟨_, rfl, ?_⟩
    have l0 := ls i 0 hi (by decide)
    have lf := law_far_eq (r := rowF many i 0) (w := w) (by rw [(rk i hi).1, hl]; exact Nat.le_refl _) (by rw [(rk i hi).1]; omega)
    simp only [↓kPre, kPost, nI_eq]
    refine RsK.of l0 ?_
    simp only [↓kPre, kPost, lf, mulD_ii (.inl (by decide : -(2 ^ 64) < (2 : Int) ∧ (2 : Int) < 2 ^ 64))]
    refine OpK.of (app_snoc PyData.int (hT? i hi) (by omega)) ?_
    simp only [↓kPre, kPost]
    exact ⟨(some _, some _), .inl rfl⟩
  have tk : T.take L = T := by rw [← hTl, List.take_length]
  have neT : neD (.list (T.map PyData.int)) (.list (T.map PyData.int)) = some (.bool false) := neD_selfE (α := List Int) (by decide) T
  simp only [↓kPre, kPost, List.length_range, tk, t1, neT]
  refine E_mapS PyData.int [.un, .drw a k ns, .dat (.int (many : Nat)), .dat (.int (L : Nat)), .dat (tN w), .dat (.list (T.map PyData.int)), gv c.1, gv c.2, .un, .un, .un, .un, .un, .un, .un, .un, .un, .un, .un, .un, .un, .un, .un, .un, .un, .un, .un] T (fun n => .int (n * n)) ?_ (by simp) (by first | rfl | (simp [plainAt, plain_gv]; done) | (simp [plainAt, plain_gv, plainSlot]; done)) (by omega) (fun n hn => ?_) ?_
  · simp only [↓kPre, kPost, walk_l, and_self]
  · have hb : (-(2 ^ 64) < n ∧ n < 2 ^ 64) ∨ (-(2 ^ 64) < n ∧ n < 2 ^ 64) := by
      obtain ⟨m, hm, em⟩ := List.getElem_of_mem hn
      have := hT? m (by omega)
      rw [List.getElem?_eq_getElem hm, em] at this
      have h2 := Option.some.inj this
      have h3 := fr m (by omega)
      omega
    simp only [↓kPre, kPost, mulD_ii hb, and_self]
  have sm : sumD [.list (T.map fun n => PyData.int (n * n))] = some (.int ((L * L : Nat) : Int)) := by
    rw [sumD_mapf, t2]
  have hbL : (-(2 ^ 64) < ((L : Nat) : Int) ∧ ((L : Nat) : Int) < 2 ^ 64) ∨ (-(2 ^ 64) < ((L : Nat) : Int) ∧ ((L : Nat) : Int) < 2 ^ 64) := by omega
  have ll : decide ((((L * L : Nat)) : Int) = (L : Int) * (L : Int)) = true := by simp
  have ib := is_bent_eq t1 (by omega)
  have ib1 : f_is_bent [.tuple [.int 1]] = .ok (.bool false) := by kernel_rfl
  have isf : isntD (.bool false) (.bool false) = some (.bool false) := rfl
  have t0 : T[0]? = some (T.getD 0 0) := by
    rw [List.getD_eq_getElem?_getD, List.getElem?_eq_getElem (by omega)]
    rfl
  have ix0 : ixD (.list (T.map PyData.int)) (.int 0) = some (.int (T.getD 0 0)) := ixL_g (k := 0) PyData.int t0
  simp only [↓kPre, kPost, sm, mulD_ii hbL, ll, ib]
  refine E_selG PyData.int T (fun n => abI n != abI (T.getD 0 0)) PyData.int ?_ (by simp) (by first | rfl | (simp [plainAt, plain_gv]; done) | (simp [plainAt, plain_gv, plainSlot]; done)) (by omega) (fun n hn => ?_) (fun n hn _ => ?_) ?_
  · simp only [↓kPre, kPost, walk_l, and_self]
  · have e : (!decide (abI n = abI (T.getD 0 0))) = (abI n != abI (T.getD 0 0)) := by
      rw [Bool.eq_iff_iff]
      simp
    simp only [↓kPre, kPost, absD_i, ix0, e, and_self]
  · simp only [↓kPre, kPost, and_self]
  have eb : (decide (1 < w.length) && decide ((ddI (T.map abI)).length = 1)) = decide ((((T.filter fun n => abI n != abI (T.getD 0 0)).length : Nat) : Int) = 0) := by
    have hw1 : decide (1 < w.length) = true := by
      apply decide_eq_true
      omega
    rw [hw1, Bool.true_and, decide_eq_decide]
    cases hT : T with
    | nil => rw [hT] at hTl; simp at hTl; omega
    | cons x xs =>
      rw [List.map_cons, ddI_one]
      have : (x :: xs).getD 0 0 = x := rfl
      rw [this]
      constructor
      · intro h
        have : (x :: xs).filter (fun n => abI n != abI x) = [] := by
          rw [List.filter_eq_nil_iff]
          intro n hn
          rcases List.mem_cons.mp hn with rfl | hn
          · simp
          · simp [h _ (List.mem_map.mpr ⟨n, hn, rfl⟩)]
        rw [this]
        rfl
      · intro h m hm
        obtain ⟨n, hn, rfl⟩ := List.mem_map.mp hm
        have h2 : ((x :: xs).filter (fun n => abI n != abI x)) = [] := List.length_eq_zero_iff.mp (by omega)
        have := List.filter_eq_nil_iff.mp h2 n (List.mem_cons_of_mem _ hn)
        simpa using this
  have nb : ∀ b : Bool, neD (.bool b) (.bool b) = some (.bool false) := fun b => neD_selfE (α := Bool) (by decide) b
  simp only [↓kPre, kPost, eb, nb, ib1, isf]
  obtain ⟨best, far, m1, m2, m3⟩ := near_ok (F := fun m c => fdist (rowF many m c) w) (by omega) hTl hTa fr
  obtain ⟨F, eF⟩ : ∃ F : Nat → Nat → Nat, F = fun m c => fdist (rowF many m c) w := ⟨_, rfl⟩
  have eF' : ∀ m c, fdist (rowF many m c) w = F m c := fun m c => by rw [eF]
  rw [← eF] at m2 m3
  simp only [↓kPre, kPost, rng1_ok (n := L) (by omega), list_range]
  refine W_forX nI (List.range L) (st := fun i (c' : Option D × Option D) => [.un, .drw a k ns, .dat (.int (many : Nat)), .dat (.int (L : Nat)), .dat (tN w), .dat (.list (T.map PyData.int)), gv c'.1, gv c.2, .dat (.int (L : Nat)), .own ((prTake F i 0).map prD), gv c'.2, .un, .un, .un, .un, .un, .un, .un, .un, .un, .un, .un, .un, .un, .un, .un, .un]) (c.1, none) (fun i x hx c' => ?_) (fun c' => ?_)
  · obtain ⟨hi, rfl⟩ := rangeAt hx
    refine ⟨_, rfl, ?_⟩
    simp only [↓kPre, kPost, walk_t]
    have e01 : ([.int 0, .int 1] : List D) = [0, 1].map nI := rfl
    rw [e01]
    refine W_forX nI [0, 1] (st := fun j (c2 : Option D) => [.un, .drw a k ns, .dat (.int (many : Nat)), .dat (.int (L : Nat)), .dat (tN w), .dat (.list (T.map PyData.int)), .dat (nI i), gv c.2, .dat (.int (L : Nat)), .own ((prTake F i j).map prD), gv c2, .un, .un, .un, .un, .un, .un, .un, .un, .un, .un, .un, .un, .un, .un, .un, .un]) c'.2 (fun j y hy c2 => ?_) (fun c2 => ?_)
    · have hj : j < 2 ∧ y = j := by
        match j, hy with
        | 0, hy => simp at hy; exact ⟨by decide, hy.symm⟩
        | 1, hy => simp at hy; exact ⟨by decide, hy.symm⟩
        | _ + 2, hy => simp at hy
      obtain ⟨hj, rfl⟩ := hj
      refine ⟨_, rfl, ?_⟩
      have l0 := ls i y hi hj
      have y01 : y = 0 ∨ y = 1 := by omega
      have hrl : (rowF many i y).length = L := by
        rcases y01 with e | e
        · rw [e]
          exact (rk i hi).1
        · rw [e]
          exact hr1 i hi
      have lf := law_far_eq (r := rowF many i y) (w := w) (by rw [hrl, hl]; exact Nat.le_refl _) (by rw [hrl]; omega)
      rw [eF'] at lf
      simp only [↓kPre, kPost, nI_eq]
      refine RsK.of l0 ?_
      simp only [↓kPre, kPost, lf]
      have hpl := prTake_len (F := F) (i := i) (j := y)
      have hz : (1000000 : Nat) ≤ sizeLine := by decide
      have e2 : (prTake F i (y + 1)).map prD = (prTake F i y).map prD ++ [prD (prF F i y)] := by
        unfold prTake
        rcases y01 with e | e
        · rw [e]
          simp
        · rw [e]
          simp
      refine OpK.of (appD_one (by rw [List.length_map]; omega)) ?_
      simp only [↓kPre, kPost, e2]
      exact ⟨some _, .inl rfl⟩
    · have e3 : (prTake F i [0, 1].length).map prD = (prTake F (i + 1) 0).map prD := by
        unfold prTake
        rw [List.range_succ, List.flatMap_append]
        simp
      simp only [↓kPre, kPost]
      refine ⟨(some (nI i), c2), .inl ?_⟩
      rw [e3]
      rfl
  have e4 : prTake F L 0 = prsF F L := by
    unfold prTake prsF
    simp
  have hpl : (prsF F L).length ≤ 100 := by
    rw [← e4]
    have := prTake_len (F := F) (i := L) (j := 0)
    omega
  simp only [↓kPre, kPost, List.length_range, e4]
  refine E_mapS prD [.un, .drw a k ns, .dat (.int (many : Nat)), .dat (.int (L : Nat)), .dat (tN w), .dat (.list (T.map PyData.int)), gv c'.1, gv c.2, .dat (.int (L : Nat)), .dat (.list ((prsF F L).map prD)), gv c'.2, .un, .un, .un, .un, .un, .un, .un, .un, .un, .un, .un, .un, .un, .un, .un, .un] (prsF F L) (fun p => .int (p.far : Nat)) ?_ (by simp) (by first | rfl | (simp [plainAt, plain_gv]; done) | (simp [plainAt, plain_gv, plainSlot]; done)) (by omega) (fun p hp => ?_) ?_
  · simp only [↓kPre, kPost, walk_l, and_self]
  · have : ixD (prD p) (.int 0) = some (.int (p.far : Nat)) := rfl
    simp only [↓kPre, kPost, this, and_self]
  have mn : minD [.list ((prsF F L).map fun p => PyData.int (p.far : Nat))] = some (.int (far : Nat)) := by
    have e : ((prsF F L).map fun p => PyData.int (p.far : Nat)) = ((prsF F L).map fun p => (p.far : Int)).map PyData.int := by
      rw [List.map_map]
      rfl
    rw [e]
    show ((allI (((prsF F L).map fun p => (p.far : Int)).map PyData.int)).bind minI).map PyData.int = _
    rw [allI_map]
    simp only [Option.bind_some, m2, Option.map_some]
  have nr := near_eq (many := (many : Int)) t1 m1 (by omega)
  rw [hTl] at nr
  simp only [↓kPre, kPost, mn, nr]
  refine E_selG prD (prsF F L) (fun p => p.far == far) (fun p => .tuple [.int (p.mask : Nat), .int (p.add : Nat)]) ?_ (by simp) (by first | rfl | (simp [plainAt, plain_gv]; done) | (simp [plainAt, plain_gv, plainSlot]; done)) (by omega) (fun p hp => ?_) (fun p hp _ => ?_) ?_
  · simp only [↓kPre, kPost, walk_l, and_self]
  · have : ixD (prD p) (.int 0) = some (.int (p.far : Nat)) := rfl
    have e : decide ((p.far : Int) = (far : Nat)) = (p.far == far) := by
      rw [Bool.eq_iff_iff]
      simp
      omega
    simp only [↓kPre, kPost, this, e, and_self]
  · have : ixD (prD p) (.int 1) = some (.tuple [.int (p.mask : Nat), .int (p.add : Nat)]) := rfl
    simp only [↓kPre, kPost, this, and_self]
  rw [m3]
  have nn : neD (.list ((List.range L).flatMap (nearAt T best))) (.list ((List.range L).flatMap (nearAt T best))) = some (.bool false) := by
    refine neD_self ?_ ?_
    · show noDictA _ = true
      rw [noDictA_all, List.all_eq_true]
      intro d hd
      obtain ⟨m, _, hm⟩ := List.mem_flatMap.mp hd
      unfold nearAt at hm
      split at hm
      · rcases List.mem_append.mp hm with hm | hm
        · split at hm
          · rw [List.mem_singleton.mp hm]; rfl
          · cases hm
        · split at hm
          · rw [List.mem_singleton.mp hm]; rfl
          · cases hm
      · cases hm
    · show ((List.range L).flatMap (nearAt T best)).all (shal 7) = true
      rw [List.all_eq_true]
      intro d hd
      obtain ⟨m, _, hm⟩ := List.mem_flatMap.mp hd
      unfold nearAt at hm
      split at hm
      · rcases List.mem_append.mp hm with hm | hm
        · split at hm
          · rw [List.mem_singleton.mp hm]; rfl
          · cases hm
        · split at hm
          · rw [List.mem_singleton.mp hm]; rfl
          · cases hm
      · cases hm
  simp only [↓kPre, kPost, nn]
  refine RwK_take (n := 3) hn (by omega) fun r k1 ns1 n1 hr _ => ?_
  have hr := hr (by omega)
  simp only [↓kPre, kPost]
  have em : (1 : Int) + (r : Nat) = ((1 + r : Nat) : Int) := by omega
  have em2 : ((1 + r : Nat) : Int) + 1 = ((1 + r + 1 : Nat) : Int) := by omega
  rw [em]
  simp only [em2]
  refine RwK_take (n := 1 + r + 1) n1 (by omega) fun z k2 ns2 n2 hz _ => ?_
  have hz := hz (by omega)
  simp only [↓kPre, kPost]
  have tl := tail_ok (a := a) (k := k2) (ns := ns2) (g3 := .dat (.int (L : Nat))) (g4 := .dat (tN w)) (g5 := .dat (.list (T.map PyData.int))) (g6 := gv c'.1) (g7 := gv c.2) (g8 := .dat (.int (far : Nat))) (g9 := .dat (.list ((prsF F L).map prD))) (g10 := gv c'.2) (m := 1 + r) (z := z) (by omega) (by omega) (by omega)
  exact isT_ok tl
/-! the law -/
def b_e5 : EM D := (eB tupleD (aCons (eFz (eComp [24] (iA (eCall 2 (f__law_words) (aCons (eC (.int 2)) (aCons (eC (.int 4)) (aNil))))) (gN 24) (bYes) (eBin modD (eB intD (aCons (eBin addD (eBin mulD (eIx (eV 24) (eC (.int 0))) (eIx (eV 24) (eC (.int 1)))) (eBin mulD (eIx (eV 24) (eC (.int 2))) (eIx (eV 24) (eC (.int 3))))) (aNil))) (eC (.int 2))))) (aNil)))
def b_h5 : SM := (sIf (bAnd (bOf (eBin eqD (eV 2) (eC (.int 4)))) (bOf (eBin eqD (eCallW 1 2 f__law_take (aCons (eC (.int 2)) (aNil))) (eC (.int 0))))) (sSeq (sSet 4 b_e5) (sNx)) (sNx))
def b_h4 : SM := (sIf (bAnd (bOf (eBin eqD (eV 2) (eC (.int 2)))) (bOf (eBin eqD (eCallW 1 2 f__law_take (aCons (eC (.int 2)) (aNil))) (eC (.int 0))))) (sSeq (sSet 4 (eTup (aCons (eC (.int 0)) (aCons (eC (.int 0)) (aCons (eC (.int 0)) (aCons (eC (.int 1)) (aNil))))))) (sNx)) (sNx))
def b_h3 : SM := (sSet 4 (eB tupleD (aCons (eFz (eComp [21] (iR1 (aCons (eV 3) (aNil))) (gN 21) (bYes) (eCallW 1 2 f__law_take (aCons (eC (.int 2)) (aNil))))) (aNil))))
def b_h2 : SM := (sSet 3 (eB lenD (aCons (eCall 2 (f__law_words) (aCons (eC (.int 2)) (aCons (eV 2) (aNil)))) (aNil))))
def b_h1 : SM := (sSet 2 (eBin addD (eC (.int 1)) (eCallW 1 2 f__law_take (aCons (eC (.int 4)) (aNil)))))
theorem law_split : b_law = sSeq b_h1 (sSeq b_h2 (sSeq b_h3 (sSeq b_h4 (sSeq b_h5 b_rest6)))) := rfl
def w16 : List Nat := [0, 0, 0, 1, 0, 0, 0, 1, 0, 0, 0, 1, 1, 1, 1, 0]
theorem e5_eq {a : Addr} {k : Int} {ns : List Int} {d2 d3 d : D} : b_e5 [.un, .drw a k ns, .dat d2, .dat d3, .dat d, .un, .un, .un, .un, .un, .un, .un, .un, .un, .un, .un, .un, .un, .un, .un, .un, .un, .un, .un, .un, .un, .un] = .ok (tN w16) [.un, .drw a k ns, .dat d2, .dat d3, .dat d, .un, .un, .un, .un, .un, .un, .un, .un, .un, .un, .un, .un, .un, .un, .un, .un, .un, .un, .un, .un, .un, .un] := by kernel_rfl
theorem words_len {m : Nat} (h1 : 1 ≤ m) (h4 : m ≤ 4) : ∃ l : List D, f__law_words [.int 2, .int (m : Nat)] = .ok (.list l) ∧ l.length = 2 ^ m := by
  match m, h1, h4 with
  | 1, _, _ => exact ⟨wL 1, by kernel_rfl, rfl⟩
  | 2, _, _ => exact ⟨wL 2, by kernel_rfl, rfl⟩
  | 3, _, _ => exact ⟨wL 3, by kernel_rfl, rfl⟩
  | 4, _, _ => exact ⟨wL 4, by kernel_rfl, rfl⟩
theorem d0 : decide (((0 : Nat) : Int) = 0) = true := rfl
theorem d1 : decide (((1 : Nat) : Int) = 0) = false := rfl
def LawSt (many : Nat) (P : Out → Prop) (f : SM) : Prop := ∀ (a : Addr) (k : Int) (ns : List Int) (w : List Nat), DrawOk ns → w.length = 2 ^ many → (∀ z ∈ w, z < 2) → Wp f [.un, .drw a k ns, .dat (.int (many : Nat)), .dat (.int (2 ^ many : Nat)), .dat (tN w), .un, .un, .un, .un, .un, .un, .un, .un, .un, .un, .un, .un, .un, .un, .un, .un, .un, .un, .un, .un, .un, .un] P
theorem h5_ok {many : Nat} {P : Out → Prop} {g : SM} (h : LawSt many P g) : LawSt many P (sSeq b_h5 g) := by
  intro a k ns w hn hl hw
  unfold b_h5
  by_cases e : many = 4
  · subst e
    have e2 : decide (((4 : Nat) : Int) = 4) = true := rfl
    simp only [↓kPre, kPost, e2]
    refine RwK_take (n := 2) hn (by omega) fun r k1 ns1 n1 hr _ => ?_
    have hr := hr (by omega)
    match r, hr with
    | 0, _ =>
      simp only [↓kPre, kPost, d0]
      refine ⟨_, _, e5_eq, ?_⟩
      simp only [↓kPre, kPost]
      exact h a k1 ns1 w16 n1 rfl (by decide)
    | 1, _ =>
      simp only [↓kPre, kPost, d1]
      exact h a k1 ns1 w n1 hl hw
    | n + 2, h => exact absurd h (by omega)
  · have e2 : decide (((many : Nat) : Int) = 4) = false := decide_eq_false (by omega)
    simp only [↓kPre, kPost, e2]
    exact h a k ns w hn hl hw
theorem h4_ok {many : Nat} {P : Out → Prop} {g : SM} (h : LawSt many P g) : LawSt many P (sSeq b_h4 g) := by
  intro a k ns w hn hl hw
  unfold b_h4
  by_cases e : many = 2
  · subst e
    have e2 : decide (((2 : Nat) : Int) = 2) = true := rfl
    simp only [↓kPre, kPost, e2]
    refine RwK_take (n := 2) hn (by omega) fun r k1 ns1 n1 hr _ => ?_
    have hr := hr (by omega)
    match r, hr with
    | 0, _ =>
      simp only [↓kPre, kPost, d0]
      exact h a k1 ns1 [0, 0, 0, 1] n1 rfl (by decide)
    | 1, _ =>
      simp only [↓kPre, kPost, d1]
      exact h a k1 ns1 w n1 hl hw
    | n + 2, h => exact absurd h (by omega)
  · have e2 : decide (((many : Nat) : Int) = 2) = false := decide_eq_false (by omega)
    simp only [↓kPre, kPost, e2]
    exact h a k ns w hn hl hw
theorem law_true : ∀ a ms, DrawOk ms → ∃ S, b_law (.un :: .drw a 0 ms :: List.replicate 25 .un) = .rt (.bool true) S := by
  intro a ms hm
  have key : Wp b_law [.un, .drw a 0 ms, .un, .un, .un, .un, .un, .un, .un, .un, .un, .un, .un, .un, .un, .un, .un, .un, .un, .un, .un, .un, .un, .un, .un, .un, .un] fun o => ∃ S, o = .rt (.bool true) S := by
    rw [law_split]
    unfold b_h1 b_h2 b_h3
    simp only [↓kPre, kPost]
    refine RwK_take (n := 4) hm (by omega) fun r k1 ns1 n1 hr _ => ?_
    have hr := hr (by omega)
    have em : (1 : Int) + (r : Nat) = ((1 + r : Nat) : Int) := by omega
    have h1 : 1 ≤ 1 + r := by omega
    have h4 : 1 + r ≤ 4 := by omega
    simp only [↓kPre, kPost, em]
    obtain ⟨many, e⟩ : ∃ m, m = 1 + r := ⟨_, rfl⟩
    rw [← e] at h1 h4 ⊢
    obtain ⟨l, lw, ll⟩ := words_len h1 h4
    have hL : 2 ^ many ≤ 16 := Nat.pow_le_pow_right (by decide) h4
    simp only [↓kPre, kPost, lw, lenD_l, ll]
    refine E_drawN (v := 21) (w := 1) (2 ^ many) 2 rfl n1 (by decide) ?_ (by simp) (by first | rfl | (simp [plainAt, plain_gv]; done) | (simp [plainAt, plain_gv, plainSlot]; done)) (by omega) (fun i hi k ns hk => ?_) fun w k2 ns2 n2 hl hw => ?_
    · simp only [↓kPre, kPost, rng1_ok (n := 2 ^ many) (by omega), list_range, and_self]
    · simp only [↓kPre, kPost]
      refine RwK_take (n := 2) hk (by omega) fun r k' ns' hk' hr _ => ?_
      exact ⟨⟨r, rfl, hr (by omega)⟩, k', ns', hk', rfl⟩
    · have tu : tupleD [.list (w.map nI)] = some (tN w) := rfl
      simp only [↓kPre, kPost, tu]
      have fin := h4_ok (h5_ok fun a k ns w hn hl hw => rest6_ok hn h1 h4 hl hw) a k2 ns2 w n2 hl hw
      rw [Wp_seq] at fin
      exact fin
  obtain ⟨_, S, e⟩ := key
  exact ⟨S, e⟩
end FW

open PySem PySem.W PySem.Calls PyProof.Rows
set_option maxHeartbeats 0 in
theorem PySem.Challenge.cw_farwords_k16_whole_transforms_and_flat_l_holds : PySem.Challenge.rw_farwords_k16_whole_transforms_and_flat_l.Holds := by
  w_on; o_law
  refine HandSHeadRun.head_any (r := OpenLaw.row PySem.Challenge.rw_farwords_k16_whole_transforms_and_flat_l) (q := view (OpenLaw.row PySem.Challenge.rw_farwords_k16_whole_transforms_and_flat_l).prog [33]) (H := FW.hk) (ob := FW.ob) (M := 4000) (loose := FW.loose) (d := HandSHeadRun.topDef (OpenLaw.row PySem.Challenge.rw_farwords_k16_whole_transforms_and_flat_l).prog 33) (kwd := []) FW.ob_eq
    (by kernel_rfl) (fun s => by kernel_rfl) FW.run (by kernel_rfl) (by kernel_rfl) (by kernel_rfl) (by rfl) (by first | assumption | decide +kernel) (by decide +kernel) ⟨rfl, rfl, rfl, rfl, rfl, by decide +kernel⟩ ?hw ?hc
  case hw => w_witness2
  case hc =>
    refine L2.walk_ofE (l := PySem.Challenge.rw_farwords_k16_whole_transforms_and_flat_l) (n := 63) (k := 5) (x := "script") (CX := L2.CX0) rfl (by decide) (by kernel_rfl) ⟨rfl, by decide, by decide⟩ ?F (fun _ _ _ _ z => z)
    intro w mg fa h Y G hmg0
    obtain ⟨K, KX, c⟩ := Y
    have hmg : mg ("law" : PySem.Str) = some (.ref fa) := by
      have e : (HandSHeadRun.topDef (OpenLaw.row PySem.Challenge.rw_farwords_k16_whole_transforms_and_flat_l).prog 33).name = ("law" : PySem.Str) := by kernel_rfl
      rw [← e]
      exact hmg0
    obtain ⟨fd, hb, hF⟩ := FW.facts (P := (PySem.Challenge.rw_farwords_k16_whole_transforms_and_flat_l).prog) (w := w) FW.law_true KX G hmg c
    exact ⟨K, fd, FW.spLaw K, KX, hb, fun H a ns hl _ hS => ⟨a, ns, rfl, hS, hl, fun _ => rfl⟩, hF⟩

